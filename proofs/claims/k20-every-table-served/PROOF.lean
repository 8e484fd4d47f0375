import PyProof.Rows.All
import HandS.ForMost
import KE.KDictKeyed
import HandS.Lambda
import HandS.TupAny
import HandS.IsInst
import HandS.Conv
import KE.KDictWalk
import KE.GoesNew
import HandS.TupLen
import KE.KDictPairs
import KE.KDictCopyH
import KE.KDictItemsList
import HandS.ListItems
import HandS.Sort
import HandS.Text
import HandS.Strs
import PySem.Challenge.RW_roundpromises_k20_whole_every_table_serv
import KE.KDictOf
import KE.SortKeyHeap
import KE.KSortKey
import PyProof.ReprRoads
import KE.KEqNest
import KE.KEqDict
import HandS.EndBits
import HandS.EndTab
import Wide.All
import OpenK.AllK
import Wide.FinOn
set_option Elab.async false
set_option linter.all false
set_option autoImplicit false
set_option maxRecDepth 100000
set_option maxHeartbeats 4000000
/-! S1: plain data, what a value stands for, judgements over environments of data. -/
namespace Sk
open PySem PySem.Spec PyProof.Rows L2

inductive D where
  | non
  | bl (b : Bool)
  | int (i : Int)
  | str (x : Str)
  | tup (xs : List D)
  | lst (xs : List D)
  | dct (ks vs : List D)
  | obj (c : Addr) (ns : List Str) (vs : List D)
  | src
  | scr (ns : List Int)
  /-- what stands at an address, to the letter (held by loops alone) -/
  | pin (a : Addr) (o : HO)
  /-- an address, whatever stands there -/
  | adr (a : Addr)

mutual
def D.nk : D → NestedKey
  | .non => .none
  | .bl b => .num (if b then 1 else 0)
  | .int i => .num i
  | .str x => .text x
  | .tup ds => .tup (nkL ds)
  | _ => .none
def nkL : List D → List NestedKey
  | [] => []
  | d :: ds => d.nk :: nkL ds
end
mutual
/-- a key: made of None, ints, texts, tuples -/
def D.isK : D → Bool
  | .non => true
  | .int _ => true
  | .str _ => true
  | .tup ds => isKL ds
  | _ => false
def isKL : List D → Bool
  | [] => true
  | d :: ds => d.isK && isKL ds
end
def D.leaf : D → Bool
  | .tup _ => false
  | _ => true
/-- the keys of a dict -/
structure DKeys (ks : List D) : Prop where
  key : ∀ k ∈ ks, k.isK = true ∧ k.nk.depth ≤ 8
  nd : (ks.map D.nk).Nodup
  kind : (∀ k ∈ ks, k.leaf = true) ∨ (∀ k ∈ ks, k.leaf = false)

def EntIs (x : Int × V × V) (e : DictEntry) : Prop := e.hash = x.1 ∧ RelV x.2.1 e.key ∧ RelV x.2.2 e.val
/-- a dict, by its object and its entries: hash, key, value -/
def dO (a : Addr) (x : Obj × List (Int × V × V)) : HO := .ext fun h => (a == sysModules) = false ∧ x.2.length ≤ sizeLine ∧ h.get? a = some x.1 ∧ x.1.ExactDict ∧
  ∃ es ep, x.1.data = .dict es ep ∧ Paired EntIs x.2 es.toList
def entL (w : World) (ks : List D) (kv vs : List V) : List (Int × V × V) := (ks.map fun k => k.nk.hash w).zip (kv.zip vs)
/-- kv: the dict's object, the values of its keys -/
def ents (w : World) (ks : List D) (kv : Obj × List V) (vs : List V) : Obj × List (Int × V × V) := (kv.1, entL w ks kv.2 vs)

/-- a list that nothing writes -/
def SqF (K : PySem.W.Frag) (H : Hp) (a : Addr) (xs : List V) : Prop := (∃ o, H a = some (.frz o (.lst xs))) ∨ ∀ H', SqL K H' a xs
abbrev G := Option (Addr × Addr × Addr × List (Addr × Str))

mutual
/-- the value v stands for d; nothing at an address of F is leant on -/
def Rep (K : PySem.W.Frag) (w : World) (g : G) (H : Hp) (F : Addr → Prop) : D → V → Prop
  | .non, v => v = .non
  | .bl b, v => v = .bl b
  | .int i, v => v = .int i
  | .str x, v => v = .str x
  | .tup ds, v => ∃ a vs, v = .ref a ∧ SqT K H a vs ∧ RepL K w g H F ds vs
  | .lst ds, v => ∃ a vs, v = .ref a ∧ ¬ F a ∧ H a = some (.lst vs) ∧ RepL K w g H F ds vs
  | .dct ks ds, v => ∃ a kv vs, v = .ref a ∧ ¬ F a ∧ H a = some (dO a (ents w ks kv vs)) ∧ RepL K w g H F ks kv.2 ∧ RepL K w g H F ds vs ∧ DKeys ks ∧ ks.length = ds.length
  | .obj c ns ds, v => ∃ a dx vs, v = .ref a ∧ ¬ F a ∧ H a = some (.ins c dx (ns.zip vs)) ∧ RepL K w g H F ds vs ∧ ns.length = ds.length
  | .src, v => ∃ p, g = some p ∧ v = .ref p.1
  | .scr ns, v => ∃ a, v = .ref a ∧ SqF K H a (ns.map V.int)
  | .pin a o, v => v = .ref a ∧ ¬ F a ∧ H a = some o
  | .adr a, v => v = .ref a
def RepL (K : PySem.W.Frag) (w : World) (g : G) (H : Hp) (F : Addr → Prop) : List D → List V → Prop
  | [], vs => vs = []
  | d :: ds, vs => ∃ v r, vs = v :: r ∧ Rep K w g H F d v ∧ RepL K w g H F ds r
end

section
variable {K : PySem.W.Frag} {w : World} {g : G} {H H' : Hp} {F F' : Addr → Prop}
theorem sqT_mono {a : Addr} {xs : List V} (h : SqT K H a xs) (ht : ∀ b ys, H b = some (.tup ys) → H' b = some (.tup ys)) (hz : ∀ b o u, H b = some (.frz o u) → H' b = some (.frz o u)) : SqT K H' a xs := by
  rcases h with (h | ⟨o, h⟩) | h
  · exact .inl (.inl (ht _ _ h))
  · exact .inl (.inr ⟨o, hz _ _ _ h⟩)
  · exact .inr h
mutual
theorem Rep.mono (ht : ∀ b ys, H b = some (.tup ys) → H' b = some (.tup ys)) (hz : ∀ b o u, H b = some (.frz o u) → H' b = some (.frz o u))
    (hk : ∀ b o, ¬ F b → H b = some o → H' b = some o ∧ ¬ F' b) : ∀ (d : D) (v : V), Rep K w g H F d v → Rep K w g H' F' d v
  | .non, v, h => h
  | .bl b, v, h => h
  | .int i, v, h => h
  | .str x, v, h => h
  | .tup ds, v, h => by
    obtain ⟨a, vs, e, q, r⟩ := h
    exact ⟨a, vs, e, sqT_mono q ht hz, RepL.mono ht hz hk ds vs r⟩
  | .lst ds, v, h => by
    obtain ⟨a, vs, e, n, q, r⟩ := h
    exact ⟨a, vs, e, (hk _ _ n q).2, (hk _ _ n q).1, RepL.mono ht hz hk ds vs r⟩
  | .dct ks ds, v, h => by
    obtain ⟨a, kv, vs, e, n, q, r1, r2, dk, l⟩ := h
    exact ⟨a, kv, vs, e, (hk _ _ n q).2, (hk _ _ n q).1, RepL.mono ht hz hk ks kv.2 r1, RepL.mono ht hz hk ds vs r2, dk, l⟩
  | .obj c ns ds, v, h => by
    obtain ⟨a, dx, vs, e, n, q, r, l⟩ := h
    exact ⟨a, dx, vs, e, (hk _ _ n q).2, (hk _ _ n q).1, RepL.mono ht hz hk ds vs r, l⟩
  | .src, v, h => h
  | .scr ns, v, h => by
    obtain ⟨a, e, q⟩ := h
    refine ⟨a, e, ?_⟩
    rcases q with ⟨o, q⟩ | q
    · exact .inl ⟨o, hz _ _ _ q⟩
    · exact .inr q
  | .pin a o, v, h => by
    obtain ⟨e, n, q⟩ := h
    exact ⟨e, (hk _ _ n q).2, (hk _ _ n q).1⟩
  | .adr a, v, h => h
theorem RepL.mono (ht : ∀ b ys, H b = some (.tup ys) → H' b = some (.tup ys)) (hz : ∀ b o u, H b = some (.frz o u) → H' b = some (.frz o u))
    (hk : ∀ b o, ¬ F b → H b = some o → H' b = some o ∧ ¬ F' b) : ∀ (ds : List D) (vs : List V), RepL K w g H F ds vs → RepL K w g H' F' ds vs
  | [], vs, h => h
  | d :: ds, vs, h => by
    obtain ⟨v, r, e, h1, h2⟩ := h
    exact ⟨v, r, e, Rep.mono ht hz hk d v h1, RepL.mono ht hz hk ds r h2⟩
end
theorem RepL.length : ∀ {ds : List D} {vs : List V}, RepL K w g H F ds vs → ds.length = vs.length
  | [], vs, h => by
    have e : vs = [] := h
    subst e
    rfl
  | d :: ds, vs, h => by
    obtain ⟨v, r, e, _, h2⟩ := h
    rw [e, List.length_cons, List.length_cons, RepL.length h2]
end

/-! ### the source of draws -/
def NotG (g : G) (a : Addr) : Prop := ∀ p, g = some p → a ≠ p.1 ∧ a ≠ p.2.1 ∧ ∀ t ∈ p.2.2.2, a ≠ t.1
/-- all that was tracked is as it was, but the source of draws -/
def SameG (g : G) (H H' : Hp) : Prop := ∀ a o, H a = some o → NotG g a → H' a = some o
theorem SameG.refl (g : G) (H : Hp) : SameG g H H := fun _ _ h _ => h
theorem SameG.trans {g : G} {H H1 H2 : Hp} (a : SameG g H H1) (b : SameG g H1 H2) : SameG g H H2 := fun c o h n => b c o (a c o h n) n
theorem SameG.of {g : G} {H H' : Hp} (h : Same H H') : SameG g H H' := fun a o e _ => h a o e
theorem same_new {H : Hp} {p : Addr} {o : HO} (h : H p = none) : Same H (upd H p o) := fun b x e => by
  rw [upd_ne (ne_of_none e h)]
  exact e
/-- the dict of the source, its list of great numbers; n draws are left -/
structure SrcOk (K : PySem.W.Frag) (H : Hp) (p : Addr × Addr × Addr × List (Addr × Str)) (n : Nat) : Prop where
  ex : ∃ (L C : List Int) (r t : Int), H p.1 = some (.dK [(.inr "large", .ref p.2.1), (.inr "cells", .ref p.2.2.1), (.inr "rest", .int r), (.inr "turn", .int t)]) ∧
    H p.2.1 = some (.lst (L.map V.int)) ∧ H p.2.2.1 = some (.lst (C.map V.int)) ∧ p.2.1 ≠ p.2.2.1 ∧ (∀ x ∈ L, 0 ≤ x) ∧ (∀ x ∈ C, 0 ≤ x) ∧ 0 ≤ r ∧ 0 ≤ t ∧ t + n < 1000000 ∧ L.length ≤ 63 ∧ C.length ≤ 63
  tb : LamX.Tabs p.2.2.2 H

/-! ### environments of data -/
inductive Sl where
  /-- anything; a value; a list, dict or object of this frame's own; one that is lent to this frame -/
  | un | va (d : D) | ow (d : D) | br (d : D)
structure En where
  n : Nat
  s : List Sl
  /-- values that a loop holds -/
  h : List (D × V) := []
/-- what stays through a frame: the source, addresses that are nobody's here, the heap at its entry -/
structure Fm where
  g : G
  O : List Addr
  B : Hp
def En.to (ρ : En) (n : Nat) : En := ⟨n, ρ.s, ρ.h⟩
@[simp] theorem En.to_to (ρ : En) (n m : Nat) : (ρ.to n).to m = ρ.to m := rfl
@[simp] theorem En.to_n (ρ : En) (n : Nat) : (ρ.to n).n = n := rfl
@[simp] theorem En.to_s (ρ : En) (n : Nat) : (ρ.to n).s = ρ.s := rfl
@[simp] theorem En.to_h (ρ : En) (n : Nat) : (ρ.to n).h = ρ.h := rfl
def En.set (ρ : En) (i : Nat) (x : Sl) : En := ⟨ρ.n, ρ.s.set i x, ρ.h⟩
/-- the addresses that no value leans on: those of O, and this frame's own -/
def Fb (O : List Addr) (σ : L2.St) (ρ : List Sl) (a : Addr) : Prop := a ∈ O ∨ ∃ (i : Nat) (d : D), ρ[i]? = some (.ow d) ∧ σ[i]? = some (some (.ref a))
/-- what is held at a -/
def Con (K : PySem.W.Frag) (w : World) (g : G) (H : Hp) (F : Addr → Prop) (a : Addr) : D → Prop
  | .lst ds => ∃ vs, H a = some (.lst vs) ∧ RepL K w g H F ds vs
  | .dct ks ds => ∃ kv vs, H a = some (dO a (ents w ks kv vs)) ∧ RepL K w g H F ks kv.2 ∧ RepL K w g H F ds vs ∧ DKeys ks ∧ ks.length = ds.length
  | .obj c ns ds => ∃ dx vs, H a = some (.ins c dx (ns.zip vs)) ∧ RepL K w g H F ds vs ∧ ns.length = ds.length
  | _ => False
def SlOk (K : PySem.W.Frag) (w : World) (W : Fm) (H : Hp) (σ : L2.St) (F : Addr → Prop) (i : Nat) : Sl → Prop
  | .un => True
  | .va d => ∃ v, σ[i]? = some (some v) ∧ Rep K w W.g H F d v
  | .ow d => ∃ a, σ[i]? = some (some (.ref a)) ∧ a ∉ W.O ∧ W.B a = none ∧ Con K w W.g H F a d
  | .br d => ∃ a, σ[i]? = some (some (.ref a)) ∧ a ∈ W.O ∧ NotG W.g a ∧ Con K w W.g H F a d
structure RE (K : PySem.W.Frag) (w : World) (W : Fm) (H : Hp) (σ : L2.St) (ρ : En) : Prop where
  len : ρ.s.length = σ.length
  same : SameG W.g W.B H
  src : ∀ p, W.g = some p → p.1 ∈ W.O ∧ p.2.1 ∈ W.O ∧ (p.2.2.1 ∈ W.O ∧ ∀ t ∈ p.2.2.2, t.1 ∈ W.O) ∧ SrcOk K H p ρ.n
  tr : ∀ a ∈ W.O, ∃ o, H a = some o
  gh : ∀ p ∈ ρ.h, Rep K w W.g H (Fb W.O σ ρ.s) p.1 p.2
  slot : ∀ (i : Nat) (l : Sl), ρ.s[i]? = some l → SlOk K w W H σ (Fb W.O σ ρ.s) i l
  apart : ∀ (i j : Nat) (d d' : D) (a : Addr), ρ.s[i]? = some (Sl.ow d) → ρ.s[j]? = some (Sl.ow d') → σ[i]? = some (some (V.ref a)) → σ[j]? = some (some (V.ref a)) → i = j

section
variable {K : PySem.W.Frag} {w : World} {W : Fm} {H H' : Hp} {σ : L2.St} {ρ : En}
theorem RE.notG (r : RE K w W H σ ρ) {a : Addr} (h : a ∉ W.O) : NotG W.g a := fun p e => ⟨fun z => h (z ▸ (r.src p e).1), fun z => h (z ▸ (r.src p e).2.1), fun t ht z => h (z ▸ (r.src p e).2.2.1.2 t ht)⟩
theorem RE.notF (r : RE K w W H σ ρ) {a : Addr} (h : ¬ Fb W.O σ ρ.s a) : NotG W.g a := r.notG fun z => h (.inl z)
theorem RE.tupG (r : RE K w W H σ ρ) {a : Addr} {xs : List V} (h : H a = some (.tup xs)) : NotG W.g a := fun p e => by
  obtain ⟨_, _, _, ⟨L, C, q, t, h1, h2, _⟩, tb⟩ := r.src p e
  refine ⟨fun z => ?_, fun z => ?_, fun t ht z => ?_⟩
  · rw [z, h1] at h
    cases h
  · rw [z, h2] at h
    cases h
  · obtain ⟨ps, h3, _⟩ := tb t ht
    rw [z, h3] at h
    cases h
theorem RE.frzG (r : RE K w W H σ ρ) {a : Addr} {o : Obj} {u : HO} (h : H a = some (.frz o u)) : NotG W.g a := fun p e => by
  obtain ⟨_, _, _, ⟨L, C, q, t, h1, h2, _⟩, tb⟩ := r.src p e
  refine ⟨fun z => ?_, fun z => ?_, fun t ht z => ?_⟩
  · rw [z, h1] at h
    cases h
  · rw [z, h2] at h
    cases h
  · obtain ⟨ps, h3, _⟩ := tb t ht
    rw [z, h3] at h
    cases h
/-- what stands for data stays so -/
theorem RE.rep (r : RE K w W H σ ρ) (s : SameG W.g H H') {F F' : Addr → Prop} (hf : ∀ b o, ¬ F b → H b = some o → ¬ F' b) (hg : ∀ b, ¬ F b → b ∉ W.O) {d : D} {v : V} (h : Rep K w W.g H F d v) : Rep K w W.g H' F' d v :=
  Rep.mono (fun b ys e => s b _ e (r.tupG e)) (fun b o u e => s b _ e (r.frzG e)) (fun b o n e => ⟨s b o e (r.notG (hg b n)), hf b o n e⟩) d v h
theorem RE.repL (r : RE K w W H σ ρ) (s : SameG W.g H H') {F F' : Addr → Prop} (hf : ∀ b o, ¬ F b → H b = some o → ¬ F' b) (hg : ∀ b, ¬ F b → b ∉ W.O) {d : List D} {v : List V} (h : RepL K w W.g H F d v) : RepL K w W.g H' F' d v :=
  RepL.mono (fun b ys e => s b _ e (r.tupG e)) (fun b o u e => s b _ e (r.frzG e)) (fun b o n e => ⟨s b o e (r.notG (hg b n)), hf b o n e⟩) d v h
theorem fb_O {b : Addr} (h : ¬ Fb W.O σ ρ.s b) : b ∉ W.O := fun z => h (.inl z)
theorem RE.rep' (r : RE K w W H σ ρ) (s : SameG W.g H H') {d : D} {v : V} (h : Rep K w W.g H (Fb W.O σ ρ.s) d v) : Rep K w W.g H' (Fb W.O σ ρ.s) d v := r.rep s (fun _ _ z _ => z) (fun _ => fb_O) h
theorem RE.repL' (r : RE K w W H σ ρ) (s : SameG W.g H H') {d : List D} {v : List V} (h : RepL K w W.g H (Fb W.O σ ρ.s) d v) : RepL K w W.g H' (Fb W.O σ ρ.s) d v := r.repL s (fun _ _ z _ => z) (fun _ => fb_O) h
theorem RE.con (r : RE K w W H σ ρ) (s : SameG W.g H H') {F : Addr → Prop} (hg : ∀ b, ¬ F b → b ∉ W.O) {a : Addr} (na : NotG W.g a) : ∀ {d : D}, Con K w W.g H F a d → Con K w W.g H' F a d
  | .lst ds, ⟨vs, e, h⟩ => ⟨vs, s _ _ e na, r.repL s (fun _ _ z _ => z) hg h⟩
  | .dct ks ds, ⟨kv, vs, e, h1, h2, dk, l⟩ => ⟨kv, vs, s _ _ e na, r.repL s (fun _ _ z _ => z) hg h1, r.repL s (fun _ _ z _ => z) hg h2, dk, l⟩
  | .obj c ns ds, ⟨dx, vs, e, h, l⟩ => ⟨dx, vs, s _ _ e na, r.repL s (fun _ _ z _ => z) hg h, l⟩
  | .non, h => h.elim
  | .bl _, h => h.elim
  | .int _, h => h.elim
  | .str _, h => h.elim
  | .tup _, h => h.elim
  | .src, h => h.elim
  | .scr _, h => h.elim
  | .pin _ _, h => h.elim
  | .adr _, h => h.elim
/-- behind a step that left all as it was (but the source) -/
theorem RE.step (r : RE K w W H σ ρ) {n : Nat} (s : SameG W.g H H') (hs : ∀ p, W.g = some p → SrcOk K H' p n) : RE K w W H' σ (ρ.to n) where
  len := r.len
  same := r.same.trans s
  src := fun p e => ⟨(r.src p e).1, (r.src p e).2.1, (r.src p e).2.2.1, hs p e⟩
  tr := fun a h => by
    obtain ⟨o, e⟩ := r.tr a h
    by_cases hg : NotG W.g a
    · exact ⟨o, s a o e hg⟩
    · have hx : ∃ p, W.g = some p ∧ (a = p.1 ∨ a = p.2.1 ∨ ∃ t ∈ p.2.2.2, a = t.1) := by
        cases eg : W.g with
        | none => exact absurd (fun p z => by rw [eg] at z; cases z) hg
        | some p =>
          refine ⟨p, rfl, Classical.byContradiction fun z => hg fun p' e' => ?_⟩
          rw [eg] at e'
          cases e'
          exact ⟨fun y => z (.inl y), fun y => z (.inr (.inl y)), fun t ht y => z (.inr (.inr ⟨t, ht, y⟩))⟩
      obtain ⟨p, e, q⟩ := hx
      obtain ⟨⟨L, C, q', t, h1, h2, _⟩, tb⟩ := hs p e
      rcases q with q | q | ⟨t, ht, q⟩
      · exact ⟨_, q ▸ h1⟩
      · exact ⟨_, q ▸ h2⟩
      · obtain ⟨ps, h3, _⟩ := tb t ht
        exact ⟨_, q ▸ h3⟩
  gh := fun p hp => r.rep' s (r.gh p hp)
  slot := fun i l e => by
    have h := r.slot i l e
    cases l with
    | un => trivial
    | va d =>
      obtain ⟨v, e1, h⟩ := h
      exact ⟨v, e1, r.rep' s h⟩
    | ow d =>
      obtain ⟨a, e1, n1, n2, h⟩ := h
      exact ⟨a, e1, n1, n2, r.con s (fun _ => fb_O) (r.notG n1) h⟩
    | br d =>
      obtain ⟨a, e1, n1, n2, h⟩ := h
      exact ⟨a, e1, n1, n2, r.con s (fun _ => fb_O) n2 h⟩
  apart := r.apart
/-- a source stays while all stays -/
theorem SrcOk.same {p : Addr × Addr × Addr × List (Addr × Str)} {n : Nat} (h : SrcOk K H p n) (s : Same H H') : SrcOk K H' p n := by
  obtain ⟨⟨L, C, r, t, h1, h2, h3, h4⟩, tb⟩ := h
  exact ⟨⟨L, C, r, t, s _ _ h1, s _ _ h2, s _ _ h3, h4⟩, tb.ext s⟩
/-- the tables stay while what is neither a table nor a code object is changed -/
theorem tabs_upd {T : List (Addr × Str)} {H : Hp} {a : Addr} {u o : HO} (h : LamX.Tabs T H) (e : H a = some u) (n1 : ∀ ps, u ≠ .tbl ps) (n2 : ∀ q, u ≠ LamX.CodeO a q) : LamX.Tabs T (upd H a o) := fun t ht => by
  obtain ⟨ps, h1, h2, h3⟩ := h t ht
  refine ⟨ps, ?_, h2, fun pos cv hc => ?_⟩
  · rw [upd_ne fun z => ?_]
    · exact h1
    · rw [z, e] at h1
      exact n1 ps (Option.some.inj h1)
  · obtain ⟨c, e1, e2⟩ := h3 pos cv hc
    refine ⟨c, e1, ?_⟩
    rw [upd_ne fun z => ?_]
    · exact e2
    · subst z
      rw [e] at e2
      exact n2 _ (Option.some.inj e2)
/-- a dict is no code object -/
theorem dO_code {a : Addr} {x : Obj × List (Int × V × V)} {q : Str} : dO a x ≠ LamX.CodeO a q := fun z => by
  have e := HO.ext.inj z
  let ob : Obj := { cls := .none, data := .fields #[.none, .str q 0] }
  let h : Heap := ⟨Array.replicate (a + 1) ob, {}⟩
  have g : h.get? a = some ob := by
    show (match (Array.replicate (a + 1) ob)[a]? with | some ⟨_, _, .freed, _⟩ => none | o => o) = some ob
    rw [Array.getElem?_replicate, if_pos (Nat.lt_succ_self a)]
  have c : (fun h : Heap => ∃ (oc : Obj) (vs : Array Value) (t : Tok), h.get? a = some oc ∧ oc.data = .fields vs ∧ vs[1]? = some (.str q t)) h := ⟨ob, _, 0, g, rfl, rfl⟩
  rw [← e] at c
  obtain ⟨_, _, h1, _, es, ep, h2, _⟩ := c
  rw [g] at h1
  have e1 := Option.some.inj h1
  rw [← e1] at h2
  cases h2
theorem lst_code {a : Addr} {xs : List V} {q : Str} : HO.lst xs ≠ LamX.CodeO a q := fun z => by
  unfold LamX.CodeO at z
  cases z
theorem ins_code {a c d : Addr} {xs : List (Str × V)} {q : Str} : HO.ins c d xs ≠ LamX.CodeO a q := fun z => by
  unfold LamX.CodeO at z
  cases z
theorem dK_code {a : Addr} {xs : List (Key × V)} {q : Str} : HO.dK xs ≠ LamX.CodeO a q := fun z => by
  unfold LamX.CodeO at z
  cases z
/-- .. or what is new, or nobody's and no table and no code object -/
theorem tabs_keep {T : List (Addr × Str)} {H H' : Hp} (h : LamX.Tabs T H) (k1 : ∀ b ps, H b = some (.tbl ps) → H' b = some (.tbl ps)) (k2 : ∀ c q, H c = some (LamX.CodeO c q) → H' c = some (LamX.CodeO c q)) : LamX.Tabs T H' := fun t ht => by
  obtain ⟨ps, h1, h2, h3⟩ := h t ht
  refine ⟨ps, k1 _ _ h1, h2, fun pos cv hc => ?_⟩
  obtain ⟨c, e1, e2⟩ := h3 pos cv hc
  exact ⟨c, e1, k2 _ _ e2⟩
theorem RE.stay (r : RE K w W H σ ρ) (s : Same H H') : RE K w W H' σ ρ := r.step (n := ρ.n) (.of s) fun p e => (r.src p e).2.2.2.same s
end

/-! ### expressions -/
section
variable (X : Cx) (W : Fm) (ρ : En)
/-- e ends, with a value that stands for some d; n draws are left; K n d -/
def SE (e : Expr) (K : Nat → D → Prop) : Prop :=
  ∀ (pins : List (Addr × Obj)) (s : Shared) (σ : L2.St) (H : Hp), Inv X pins σ H s → RE X.K X.w W H σ ρ → wpAny (model X.prog X.w) X.A (eval e X.env)
    (fun u s' => ∃ v H' n d, Inv X pins σ H' s' ∧ RelV v u ∧ SameG W.g H H' ∧ RE X.K X.w W H' σ (ρ.to n) ∧ Rep X.K X.w W.g H' (Fb W.O σ ρ.s) d v ∧ K n d) X.xe s
/-- what follows a value -/
def Fol (σ : L2.St) (H : Hp) (K : Nat → D → Prop) (Q : VK) : Prop := ∀ v H' n d, SameG W.g H H' → RE X.K X.w W H' σ (ρ.to n) → Rep X.K X.w W.g H' (Fb W.O σ ρ.s) d v → K n d → Q v H'
/-- the reading that every expression has -/
def tX (e : Expr) : TE := fun σ H Q => ∃ n, RE X.K X.w W H σ (ρ.to n) ∧ ∃ K, SE X W (ρ.to n) e K ∧ Fol X W ρ σ H K Q
end
section
variable {X : Cx} {W : Fm} {ρ : En} {e : Expr} {K : Nat → D → Prop}
theorem pe_X : PE X e (tX X W ρ e) := by
  refine ⟨fun pins s σ H Q I h => ?_⟩
  obtain ⟨n, r, K, hS, hQ⟩ := h
  exact thn (hS pins s σ H I r) fun u s' ⟨v, H', m, d, I', rv, sm, r', p, k⟩ => ⟨v, H', I', rv, hQ v H' m d sm r' p k⟩
theorem SE.of {t : TE} (h : PE X e t) (q : ∀ σ H Q, RE X.K X.w W H σ ρ → Fol X W ρ σ H K Q → t σ H Q) : SE X W ρ e K := fun pins s σ H I r =>
  thn (h.run pins s σ H (fun v H' => ∃ n d, SameG W.g H H' ∧ RE X.K X.w W H' σ (ρ.to n) ∧ Rep X.K X.w W.g H' (Fb W.O σ ρ.s) d v ∧ K n d) I (q σ H _ r fun v H' n d a b c k => ⟨n, d, a, b, c, k⟩))
    fun u s' ⟨v, H', I', rv, n, d, a, b, c, k⟩ => ⟨v, H', n, d, I', rv, a, b, c, k⟩
theorem SE.imp {K' : Nat → D → Prop} (h : SE X W ρ e K) (q : ∀ n d, K n d → K' n d) : SE X W ρ e K' := fun pins s σ H I r =>
  thn (h pins s σ H I r) fun u s' ⟨v, H', n, d, a1, a2, a3, a4, a5, k⟩ => ⟨v, H', n, d, a1, a2, a3, a4, a5, q n d k⟩
end
end Sk
set_option maxHeartbeats 4000000
/-! S2: reading what is lent, tests, comparisons, statements: the judgements and their bridge to the layer's rules. -/
namespace Sk
open PySem PySem.Spec PyProof.Rows L2

/-- v can be read as d now (a container may be lent) -/
def Rdv (K : PySem.W.Frag) (w : World) (g : G) (H : Hp) (F : Addr → Prop) : D → V → Prop
  | .lst ds, v => ∃ a vs, v = .ref a ∧ NotG g a ∧ H a = some (.lst vs) ∧ RepL K w g H F ds vs
  | .dct ks ds, v => ∃ a kv vs, v = .ref a ∧ NotG g a ∧ H a = some (dO a (ents w ks kv vs)) ∧ RepL K w g H F ks kv.2 ∧ RepL K w g H F ds vs ∧ DKeys ks ∧ ks.length = ds.length
  | .obj c ns ds, v => ∃ a dx vs, v = .ref a ∧ NotG g a ∧ H a = some (.ins c dx (ns.zip vs)) ∧ RepL K w g H F ds vs ∧ ns.length = ds.length
  | d, v => Rep K w g H F d v

section
variable {K : PySem.W.Frag} {w : World} {W : Fm} {H H' : Hp} {σ : L2.St} {ρ : En}
theorem RE.toRd (r : RE K w W H σ ρ) : ∀ {d : D} {v : V}, Rep K w W.g H (Fb W.O σ ρ.s) d v → Rdv K w W.g H (Fb W.O σ ρ.s) d v
  | .lst ds, v, h => by
    obtain ⟨a, vs, e, n, q, h⟩ := h
    exact ⟨a, vs, e, r.notF n, q, h⟩
  | .dct ks ds, v, h => by
    obtain ⟨a, kv, vs, e, n, q, h⟩ := h
    exact ⟨a, kv, vs, e, r.notF n, q, h⟩
  | .obj c ns ds, v, h => by
    obtain ⟨a, dx, vs, e, n, q, h⟩ := h
    exact ⟨a, dx, vs, e, r.notF n, q, h⟩
  | .non, v, h => h
  | .bl _, v, h => h
  | .int _, v, h => h
  | .str _, v, h => h
  | .tup _, v, h => h
  | .src, v, h => h
  | .scr _, v, h => h
  | .pin _ _, v, h => h
  | .adr _, v, h => h
theorem RE.rd (r : RE K w W H σ ρ) (s : SameG W.g H H') : ∀ {d : D} {v : V}, Rdv K w W.g H (Fb W.O σ ρ.s) d v → Rdv K w W.g H' (Fb W.O σ ρ.s) d v
  | .lst ds, v, h => by
    obtain ⟨a, vs, e, n, q, h⟩ := h
    exact ⟨a, vs, e, n, s _ _ q n, r.repL' s h⟩
  | .dct ks ds, v, h => by
    obtain ⟨a, kv, vs, e, n, q, h1, h2, h3⟩ := h
    exact ⟨a, kv, vs, e, n, s _ _ q n, r.repL' s h1, r.repL' s h2, h3⟩
  | .obj c ns ds, v, h => by
    obtain ⟨a, dx, vs, e, n, q, h, l⟩ := h
    exact ⟨a, dx, vs, e, n, s _ _ q n, r.repL' s h, l⟩
  | .non, v, h => h
  | .bl _, v, h => h
  | .int _, v, h => h
  | .str _, v, h => h
  | .tup _, v, h => r.rep' (d := .tup _) s h
  | .src, v, h => h
  | .scr _, v, h => r.rep' (d := .scr _) s h
  | .pin _ _, v, h => r.rep' (d := .pin _ _) s h
  | .adr _, v, h => h
theorem Con.rd {g : G} {F : Addr → Prop} {a : Addr} (n : NotG g a) : ∀ {d : D}, Con K w g H F a d → Rdv K w g H F d (.ref a)
  | .lst ds, ⟨vs, e, h⟩ => ⟨a, vs, rfl, n, e, h⟩
  | .dct ks ds, ⟨kv, vs, e, h⟩ => ⟨a, kv, vs, rfl, n, e, h⟩
  | .obj c ns ds, ⟨dx, vs, e, h⟩ => ⟨a, dx, vs, rfl, n, e, h⟩
  | .non, h => h.elim
  | .bl _, h => h.elim
  | .int _, h => h.elim
  | .str _, h => h.elim
  | .tup _, h => h.elim
  | .src, h => h.elim
  | .scr _, h => h.elim
  | .pin _ _, h => h.elim
  | .adr _, h => h.elim
end

section
variable (X : Cx) (W : Fm) (ρ : En)
/-- e ends, with a value that can be read as some d -/
def SB (e : Expr) (K : Nat → D → Prop) : Prop :=
  ∀ (pins : List (Addr × Obj)) (s : Shared) (σ : L2.St) (H : Hp), Inv X pins σ H s → RE X.K X.w W H σ ρ → wpAny (model X.prog X.w) X.A (eval e X.env)
    (fun u s' => ∃ v H' n d, Inv X pins σ H' s' ∧ RelV v u ∧ SameG W.g H H' ∧ RE X.K X.w W H' σ (ρ.to n) ∧ Rdv X.K X.w W.g H' (Fb W.O σ ρ.s) d v ∧ K n d) X.xe s
def FolB (σ : L2.St) (H : Hp) (K : Nat → D → Prop) (Q : VK) : Prop := ∀ v H' n d, SameG W.g H H' → RE X.K X.w W H' σ (ρ.to n) → Rdv X.K X.w W.g H' (Fb W.O σ ρ.s) d v → K n d → Q v H'
def tXB (e : Expr) : TE := fun σ H Q => ∃ n, RE X.K X.w W H σ (ρ.to n) ∧ ∃ K, SB X W (ρ.to n) e K ∧ FolB X W ρ σ H K Q
/-- a test -/
def STt (e : Expr) (K : Nat → Bool → Prop) : Prop :=
  ∀ (pins : List (Addr × Obj)) (s : Shared) (σ : L2.St) (H : Hp), Inv X pins σ H s → RE X.K X.w W H σ ρ → wpAny (model X.prog X.w) X.A (isTrue e X.env (eval e X.env))
    (fun b s' => ∃ H' n, Inv X pins σ H' s' ∧ SameG W.g H H' ∧ RE X.K X.w W H' σ (ρ.to n) ∧ K n b) X.xe s
def FolT (σ : L2.St) (H : Hp) (K : Nat → Bool → Prop) (Q : Bool → Hp → Prop) : Prop := ∀ b H' n, SameG W.g H H' → RE X.K X.w W H' σ (ρ.to n) → K n b → Q b H'
def tXT (e : Expr) : TT := fun σ H Q => ∃ n, RE X.K X.w W H σ (ρ.to n) ∧ ∃ K, STt X W (ρ.to n) e K ∧ FolT X W ρ σ H K Q
/-- a list of arguments -/
def SA (es : List Expr) (K : Nat → List D → Prop) : Prop :=
  ∀ (pos : Pos) (pins : List (Addr × Obj)) (s : Shared) (σ : L2.St) (H : Hp), Inv X pins σ H s → RE X.K X.w W H σ ρ → wpAny (model X.prog X.w) X.A (spliced (backTo pos (starEach es X.env)))
    (fun us s' => ∃ vs H' n ds, Inv X pins σ H' s' ∧ Vals vs us ∧ SameG W.g H H' ∧ RE X.K X.w W H' σ (ρ.to n) ∧ RepL X.K X.w W.g H' (Fb W.O σ ρ.s) ds vs ∧ K n ds) X.xe s
def FolA (σ : L2.St) (H : Hp) (K : Nat → List D → Prop) (Q : List V → Hp → Prop) : Prop := ∀ vs H' n ds, SameG W.g H H' → RE X.K X.w W H' σ (ρ.to n) → RepL X.K X.w W.g H' (Fb W.O σ ρ.s) ds vs → K n ds → Q vs H'
def tXA (es : List Expr) : TA := fun σ H Q => ∃ n, RE X.K X.w W H σ (ρ.to n) ∧ ∃ K, SA X W (ρ.to n) es K ∧ FolA X W ρ σ H K Q
end
section
variable {X : Cx} {W : Fm} {ρ : En} {e : Expr} {K : Nat → D → Prop}
theorem pe_XB : PE X e (tXB X W ρ e) := by
  refine ⟨fun pins s σ H Q I h => ?_⟩
  obtain ⟨n, r, K, hS, hQ⟩ := h
  exact thn (hS pins s σ H I r) fun u s' ⟨v, H', m, d, I', rv, sm, r', p, k⟩ => ⟨v, H', I', rv, hQ v H' m d sm r' p k⟩
theorem SB.of {t : TE} (h : PE X e t) (q : ∀ σ H Q, RE X.K X.w W H σ ρ → FolB X W ρ σ H K Q → t σ H Q) : SB X W ρ e K := fun pins s σ H I r =>
  thn (h.run pins s σ H (fun v H' => ∃ n d, SameG W.g H H' ∧ RE X.K X.w W H' σ (ρ.to n) ∧ Rdv X.K X.w W.g H' (Fb W.O σ ρ.s) d v ∧ K n d) I (q σ H _ r fun v H' n d a b c k => ⟨n, d, a, b, c, k⟩))
    fun u s' ⟨v, H', I', rv, n, d, a, b, c, k⟩ => ⟨v, H', n, d, I', rv, a, b, c, k⟩
theorem SE.sb (h : SE X W ρ e K) : SB X W ρ e K := fun pins s σ H I r =>
  thn (h pins s σ H I r) fun u s' ⟨v, H', n, d, a1, a2, a3, a4, a5, k⟩ => ⟨v, H', n, d, a1, a2, a3, a4, a4.toRd a5, k⟩
theorem SB.imp {K' : Nat → D → Prop} (h : SB X W ρ e K) (q : ∀ n d, K n d → K' n d) : SB X W ρ e K' := fun pins s σ H I r =>
  thn (h pins s σ H I r) fun u s' ⟨v, H', n, d, a1, a2, a3, a4, a5, k⟩ => ⟨v, H', n, d, a1, a2, a3, a4, a5, q n d k⟩
theorem STt.imp {K K' : Nat → Bool → Prop} (h : STt X W ρ e K) (q : ∀ n d, K n d → K' n d) : STt X W ρ e K' := fun pins s σ H I r =>
  thn (h pins s σ H I r) fun u s' ⟨H', n, a1, a2, a3, k⟩ => ⟨H', n, a1, a2, a3, q n u k⟩
theorem pt_X : PT X e (tXT X W ρ e) := by
  refine ⟨fun pins s σ H Q I h => ?_⟩
  obtain ⟨n, r, K, hS, hQ⟩ := h
  exact thn (hS pins s σ H I r) fun b s' ⟨H', m, I', sm, r', k⟩ => ⟨H', I', hQ b H' m sm r' k⟩
theorem STt.of {t : TT} {K : Nat → Bool → Prop} (h : PT X e t) (q : ∀ σ H Q, RE X.K X.w W H σ ρ → FolT X W ρ σ H K Q → t σ H Q) : STt X W ρ e K := fun pins s σ H I r =>
  thn (h.run pins s σ H (fun b H' => ∃ n, SameG W.g H H' ∧ RE X.K X.w W H' σ (ρ.to n) ∧ K n b) I (q σ H _ r fun v H' n a b k => ⟨n, a, b, k⟩)) fun b s' ⟨H', I', n, a1, a2, k⟩ => ⟨H', n, I', a1, a2, k⟩
theorem pa_X {es : List Expr} : PA X es (tXA X W ρ es) := by
  refine ⟨fun pos pins s σ H Q I h => ?_⟩
  obtain ⟨n, r, K, hS, hQ⟩ := h
  exact thn (hS pos pins s σ H I r) fun u s' ⟨v, H', m, d, I', rv, sm, r', p, k⟩ => ⟨v, H', I', rv, hQ v H' m d sm r' p k⟩
theorem SA.of {es : List Expr} {K : Nat → List D → Prop} {t : TA} (h : PA X es t) (q : ∀ σ H Q, RE X.K X.w W H σ ρ → FolA X W ρ σ H K Q → t σ H Q) : SA X W ρ es K := fun pos pins s σ H I r =>
  thn (h.run pos pins s σ H (fun v H' => ∃ n d, SameG W.g H H' ∧ RE X.K X.w W H' σ (ρ.to n) ∧ RepL X.K X.w W.g H' (Fb W.O σ ρ.s) d v ∧ K n d) I (q σ H _ r fun v H' n d a b c k => ⟨n, d, a, b, c, k⟩))
    fun u s' ⟨v, H', I', rv, n, d, a, b, c, k⟩ => ⟨v, H', n, d, I', rv, a, b, c, k⟩
/-- from a place further on -/
theorem Fol.later {σ : L2.St} {H H1 : Hp} {Q : VK} {n : Nat} (f : Fol X W ρ σ H K Q) (s : SameG W.g H H1) : Fol X W (ρ.to n) σ H1 K Q := fun v H' n d a b c k => f v H' n d (s.trans a) b c k
theorem FolB.later {σ : L2.St} {H H1 : Hp} {Q : VK} {n : Nat} (f : FolB X W ρ σ H K Q) (s : SameG W.g H H1) : FolB X W (ρ.to n) σ H1 K Q := fun v H' n d a b c k => f v H' n d (s.trans a) b c k
theorem FolT.later {K : Nat → Bool → Prop} {σ : L2.St} {H H1 : Hp} {Q : Bool → Hp → Prop} {n : Nat} (f : FolT X W ρ σ H K Q) (s : SameG W.g H H1) : FolT X W (ρ.to n) σ H1 K Q := fun v H' n a b k => f v H' n (s.trans a) b k
theorem sa_nil {K : Nat → List D → Prop} (h : K ρ.n []) : SA X W ρ [] K := SA.of pa_nil fun σ H Q r f => f [] H ρ.n [] (.refl W.g H) r rfl h
theorem sa_cons {es : List Expr} {K : Nat → List D → Prop} (h : SE X W ρ e fun n d => SA X W (ρ.to n) es fun m ds => K m (d :: ds)) (hs : starEach (e :: es) X.env = (false, eval e X.env) :: starEach es X.env := by rfl) : SA X W ρ (e :: es) K :=
  SA.of (pa_cons (pe_X (W := W) (ρ := ρ)) (pa_X (W := W) (ρ := ρ)) hs) fun σ H Q r f => ⟨ρ.n, r, _, h, fun v H1 n d s1 r1 p1 h1 => ⟨n, r1, _, h1, fun vs H2 m ds s2 r2 p2 h2 =>
    f (v :: vs) H2 m (d :: ds) (s1.trans s2) r2 ⟨v, vs, rfl, r1.rep' s2 p1, p2⟩ h2⟩⟩
end

/-! ### two-place operations -/
section
variable {X : Cx} {W : Fm} {ρ : En} {a b : Expr} {K : Nat → D → Prop} {pos : Pos}
/-- an operation by values, told of data -/
def OpD (X : Cx) (W : Fm) (ρ : En) (r : R2) (x y : D) (K : Nat → D → Prop) : Prop :=
  ∀ (σ : L2.St) (H : Hp) (vx vy : V) (Q : VK), RE X.K X.w W H σ ρ → Rdv X.K X.w W.g H (Fb W.O σ ρ.s) x vx → Rdv X.K X.w W.g H (Fb W.O σ ρ.s) y vy → Fol X W ρ σ H K Q → r vx vy H Q
theorem tOp_of {r : R2} {σ : L2.St} {H : Hp} {Q : VK} (re : RE X.K X.w W H σ ρ) (h : SB X W ρ a fun n x => SB X W (ρ.to n) b fun m y => OpD X W (ρ.to m) r x y K) (f : Fol X W ρ σ H K Q) :
    tOp r (tXB X W ρ a) (tXB X W ρ b) σ H Q :=
  ⟨ρ.n, re, _, h, fun v H1 n d s1 r1 p1 h1 => ⟨n, r1, _, h1, fun v2 H2 m y s2 r2 p2 h2 => h2 σ H2 v v2 Q r2 (r1.rd s2 p1) p2 (f.later (s1.trans s2))⟩⟩
theorem se_bin {op : Operator} {r : R2} (ho : OpR X (binaryOp op) r) (h : SB X W ρ a fun n x => SB X W (ρ.to n) b fun m y => OpD X W (ρ.to m) r x y K) : SE X W ρ (.BinOp a op b pos) K :=
  SE.of (pe_op ho (pe_XB (W := W) (ρ := ρ)) (pe_XB (W := W) (ρ := ρ))) fun σ H Q re f => tOp_of re h f
theorem se_cmpR {op : CmpOp} {r : R2} (ho : OpR X (compareOp op) r) (h : SB X W ρ a fun n x => SB X W (ρ.to n) b fun m y => OpD X W (ρ.to m) r x y K) (hm : behindInMarks op b = false) : SE X W ρ (.Compare a [op] [b] pos) K :=
  SE.of (pe_cmpR ho (pe_XB (W := W) (ρ := ρ)) (pe_XB (W := W) (ρ := ρ)) hm) fun σ H Q re f => tOp_of re h f
theorem st_cmpR {op : CmpOp} {r : R2} {K : Nat → Bool → Prop} (ho : OpR X (compareOp op) r) (h : SB X W ρ a fun n x => SB X W (ρ.to n) b fun m y => OpD X W (ρ.to m) r x y fun n d => ∃ k, d = .bl k ∧ K n k) (hm : behindInMarks op b = false) :
    STt X W ρ (.Compare a [op] [b] pos) K :=
  STt.of (pt_cmpR ho (pe_XB (W := W) (ρ := ρ)) (pe_XB (W := W) (ρ := ρ)) hm) fun σ H Q re f => tOp_of re h fun v H' n d s1 r1 p1 ⟨k, e, hk⟩ => by
    subst e
    exact ⟨k, p1, f k H' n s1 r1 hk⟩
end

/-! ### statements -/
structure RD where
  nx : En → Prop
  rt : Nat → D → Prop
  bk : En → Prop := fun _ => False
  ct : En → Prop := fun _ => False
/-- what is left when a def is left -/
structure RT (K : PySem.W.Frag) (W : Fm) (H : Hp) (n : Nat) : Prop where
  same : SameG W.g W.B H
  src : ∀ p, W.g = some p → p.1 ∈ W.O ∧ p.2.1 ∈ W.O ∧ (p.2.2.1 ∈ W.O ∧ ∀ t ∈ p.2.2.2, t.1 ∈ W.O) ∧ SrcOk K H p n
  tr : ∀ a ∈ W.O, ∃ o, H a = some o
theorem RE.rt {K : PySem.W.Frag} {w : World} {W : Fm} {H : Hp} {σ : L2.St} {ρ : En} (r : RE K w W H σ ρ) : RT K W H ρ.n := ⟨r.same, r.src, r.tr⟩
def SPD (X : Cx) (W : Fm) (pins : List (Addr × Obj)) (R : RD) (f : Flow) (s' : Shared) : Prop :=
  match f with
  | .next => ∃ σ' H' ρ', Inv X pins σ' H' s' ∧ RE X.K X.w W H' σ' ρ' ∧ R.nx ρ'
  | .brk => ∃ σ' H' ρ', Inv X pins σ' H' s' ∧ RE X.K X.w W H' σ' ρ' ∧ R.bk ρ'
  | .cont => ∃ σ' H' ρ', Inv X pins σ' H' s' ∧ RE X.K X.w W H' σ' ρ' ∧ R.ct ρ'
  | .ret u => ∃ v σ' H' n d, Inv X pins σ' H' s' ∧ RelV v u ∧ RT X.K W H' n ∧ Rep X.K X.w W.g H' (· ∈ W.O) d v ∧ R.rt n d
section
variable (X : Cx) (W : Fm) (ρ : En)
def SN (st : Stmt) (R : RD) : Prop := ∀ (pins : List (Addr × Obj)) (s : Shared) (σ : L2.St) (H : Hp), Inv X pins σ H s → RE X.K X.w W H σ ρ → wpAny (model X.prog X.w) X.A (exec st X.env) (SPD X W pins R) X.xe s
def SS (sts : List Stmt) (R : RD) : Prop := ∀ (pins : List (Addr × Obj)) (s : Shared) (σ : L2.St) (H : Hp), Inv X pins σ H s → RE X.K X.w W H σ ρ → wpAny (model X.prog X.w) X.A (execs sts X.env) (SPD X W pins R) X.xe s
structure FolS (R : RD) (D : Ends) : Prop where
  nx : ∀ σ' H' ρ', RE X.K X.w W H' σ' ρ' → R.nx ρ' → D.nx σ' H'
  rt : ∀ v H' n d, RT X.K W H' n → Rep X.K X.w W.g H' (· ∈ W.O) d v → R.rt n d → D.rt v H'
  bk : ∀ σ' H' ρ', RE X.K X.w W H' σ' ρ' → R.bk ρ' → D.bk σ' H'
  ct : ∀ σ' H' ρ', RE X.K X.w W H' σ' ρ' → R.ct ρ' → D.ct σ' H'
def tXS (sts : List Stmt) : TS := fun D σ H => ∃ ρ, RE X.K X.w W H σ ρ ∧ ∃ R, SS X W ρ sts R ∧ FolS X W R D
end
section
variable {X : Cx} {W : Fm} {ρ : En} {st : Stmt} {sts : List Stmt} {R : RD}
theorem pss_X : PSs X sts (tXS X W sts) := by
  refine ⟨fun pins s σ H D I h => ?_⟩
  obtain ⟨ρ, r, R, hS, f⟩ := h
  refine thn (hS pins s σ H I r) fun fl s' q => ?_
  cases fl with
  | next => obtain ⟨σ', H', ρ', a, b, c⟩ := q; exact ⟨σ', H', a, f.nx _ _ _ b c⟩
  | brk => obtain ⟨σ', H', ρ', a, b, c⟩ := q; exact ⟨σ', H', a, f.bk _ _ _ b c⟩
  | cont => obtain ⟨σ', H', ρ', a, b, c⟩ := q; exact ⟨σ', H', a, f.ct _ _ _ b c⟩
  | ret u => obtain ⟨v, σ', H', n, d, a, b, c, p, k⟩ := q; exact ⟨v, σ', H', a, b, f.rt _ _ _ _ c p k⟩
def endsOf (X : Cx) (W : Fm) (R : RD) : Ends where
  nx := fun σ' H' => ∃ ρ', RE X.K X.w W H' σ' ρ' ∧ R.nx ρ'
  rt := fun v H' => ∃ n d, RT X.K W H' n ∧ Rep X.K X.w W.g H' (· ∈ W.O) d v ∧ R.rt n d
  bk := fun σ' H' => ∃ ρ', RE X.K X.w W H' σ' ρ' ∧ R.bk ρ'
  ct := fun σ' H' => ∃ ρ', RE X.K X.w W H' σ' ρ' ∧ R.ct ρ'
theorem folS_ends : FolS X W R (endsOf X W R) :=
  ⟨fun _ _ ρ' a b => ⟨ρ', a, b⟩, fun _ _ n d a b c => ⟨n, d, a, b, c⟩, fun _ _ ρ' a b => ⟨ρ', a, b⟩, fun _ _ ρ' a b => ⟨ρ', a, b⟩⟩
theorem spd_of {pins : List (Addr × Obj)} {f : Flow} {s' : Shared} (q : SP X pins (endsOf X W R) f s') : SPD X W pins R f s' := by
  cases f with
  | next => obtain ⟨σ', H', a, ρ', b, c⟩ := q; exact ⟨σ', H', ρ', a, b, c⟩
  | brk => obtain ⟨σ', H', a, ρ', b, c⟩ := q; exact ⟨σ', H', ρ', a, b, c⟩
  | cont => obtain ⟨σ', H', a, ρ', b, c⟩ := q; exact ⟨σ', H', ρ', a, b, c⟩
  | ret u => obtain ⟨v, σ', H', a, b, n, d, c, p, k⟩ := q; exact ⟨v, σ', H', n, d, a, b, c, p, k⟩
theorem SN.of {t : TS} (h : PS X st t) (q : ∀ σ H D, RE X.K X.w W H σ ρ → FolS X W R D → t D σ H) : SN X W ρ st R := fun pins s σ H I r =>
  thn (h.run pins s σ H (endsOf X W R) I (q σ H _ r folS_ends)) fun f s' z => spd_of z
theorem SS.of {t : TS} (h : PSs X sts t) (q : ∀ σ H D, RE X.K X.w W H σ ρ → FolS X W R D → t D σ H) : SS X W ρ sts R := fun pins s σ H I r =>
  thn (h.run pins s σ H (endsOf X W R) I (q σ H _ r folS_ends)) fun f s' z => spd_of z
theorem ss_nil (h : R.nx ρ) : SS X W ρ [] R := SS.of pss_nil fun σ H D r f => f.nx σ H ρ r h
theorem ss_cons (h : SN X W ρ st { R with nx := fun ρ' => SS X W ρ' sts R }) : SS X W ρ (st :: sts) R := fun pins s σ H I r => by
  refine wpAny_execs_cons (thn (h pins s σ H I r) fun f s1 q => ?_)
  cases f with
  | next =>
    obtain ⟨σ', H', ρ', a, b, c⟩ := q
    exact c pins s1 σ' H' a b
  | ret v => exact q
  | brk => exact q
  | cont => exact q
end
end Sk
set_option maxHeartbeats 4000000
/-! S3: rules for expressions and plain statements. -/
namespace Sk
open PySem PySem.Spec PyProof.Rows L2

section
variable {X : Cx} {W : Fm} {H : Hp} {σ : L2.St} {ρ : En}
theorem Con.there {g : G} {K : PySem.W.Frag} {w : World} {F : Addr → Prop} {a : Addr} : ∀ {d : D}, Con K w g H F a d → ∃ o, H a = some o
  | .lst ds, ⟨vs, e, h⟩ => ⟨_, e⟩
  | .dct ks ds, ⟨kv, vs, e, h⟩ => ⟨_, e⟩
  | .obj c ns ds, ⟨dx, vs, e, h⟩ => ⟨_, e⟩
  | .non, h => h.elim
  | .bl _, h => h.elim
  | .int _, h => h.elim
  | .str _, h => h.elim
  | .tup _, h => h.elim
  | .src, h => h.elim
  | .scr _, h => h.elim
  | .pin _ _, h => h.elim
  | .adr _, h => h.elim
/-- a new address is nobody's -/
theorem RE.fresh {K : PySem.W.Frag} {w : World} (r : RE K w W H σ ρ) {p : Addr} (hp : H p = none) : ¬ Fb W.O σ ρ.s p := by
  rintro (h | ⟨i, d, e1, e2⟩)
  · obtain ⟨o, e⟩ := r.tr p h
    rw [hp] at e
    cases e
  · obtain ⟨a, e3, _, _, c⟩ := r.slot i _ e1
    rw [e2] at e3
    cases e3
    obtain ⟨o, e⟩ := c.there
    rw [hp] at e
    cases e
theorem Fol.tup {K : Nat → D → Prop} {Q : VK} {vs : List V} {ds : List D} {p : Addr} (f : Fol X W ρ σ H K Q) (r : RE X.K X.w W H σ ρ) (rp : RepL X.K X.w W.g H (Fb W.O σ ρ.s) ds vs) (k : K ρ.n (.tup ds)) (hp : H p = none) : Q (.ref p) (upd H p (.tup vs)) :=
  f _ _ ρ.n (.tup ds) (.of (same_new hp)) (r.stay (same_new hp)) ⟨p, vs, rfl, .of upd_same, r.repL' (.of (same_new hp)) rp⟩ k
theorem Fol.lst {K : Nat → D → Prop} {Q : VK} {vs : List V} {ds : List D} {p : Addr} (f : Fol X W ρ σ H K Q) (r : RE X.K X.w W H σ ρ) (rp : RepL X.K X.w W.g H (Fb W.O σ ρ.s) ds vs) (k : K ρ.n (.lst ds)) (hp : H p = none) : Q (.ref p) (upd H p (.lst vs)) :=
  f _ _ ρ.n (.lst ds) (.of (same_new hp)) (r.stay (same_new hp)) ⟨p, vs, rfl, r.fresh hp, upd_same, r.repL' (.of (same_new hp)) rp⟩ k
theorem Fol.now {K : Nat → D → Prop} {Q : VK} {v : V} {d : D} (f : Fol X W ρ σ H K Q) (r : RE X.K X.w W H σ ρ) (rp : Rep X.K X.w W.g H (Fb W.O σ ρ.s) d v) (k : K ρ.n d) : Q v H := f v H ρ.n d (.refl W.g H) r rp k
theorem RepL.append {g : G} {K : PySem.W.Frag} {w : World} {F : Addr → Prop} : ∀ {ds es : List D} {vs us : List V}, RepL K w g H F ds vs → RepL K w g H F es us → RepL K w g H F (ds ++ es) (vs ++ us)
  | [], es, vs, us, h, h' => by
    have e : vs = [] := h
    subst e
    exact h'
  | d :: ds, es, vs, us, ⟨v, r, e, h1, h2⟩, h' => ⟨v, r ++ us, by rw [e]; rfl, h1, RepL.append h2 h'⟩
theorem RepL.get {g : G} {K : PySem.W.Frag} {w : World} {F : Addr → Prop} : ∀ {ds : List D} {vs : List V} {i : Nat} {d : D}, RepL K w g H F ds vs → ds[i]? = some d → ∃ v, vs[i]? = some v ∧ Rep K w g H F d v
  | d :: ds, vs, 0, d', ⟨v, r, e, h1, h2⟩, h => by
    have e' : d = d' := Option.some.inj h
    subst e' e
    exact ⟨v, rfl, h1⟩
  | d :: ds, vs, i + 1, d', ⟨v, r, e, h1, h2⟩, h => by
    subst e
    exact RepL.get (i := i) h2 h
theorem RepL.get' {g : G} {K : PySem.W.Frag} {w : World} {F : Addr → Prop} : ∀ {ds : List D} {vs : List V} {i : Nat} {v : V}, RepL K w g H F ds vs → vs[i]? = some v → ∃ d, ds[i]? = some d ∧ Rep K w g H F d v
  | [], vs, i, v, h, e => by
    have e' : vs = [] := h
    subst e'
    cases e
  | d :: ds, vs, 0, d', ⟨v, r, e, h1, h2⟩, h => by
    subst e
    have e' : v = d' := Option.some.inj h
    subst e'
    exact ⟨d, rfl, h1⟩
  | d :: ds, vs, i + 1, d', ⟨v, r, e, h1, h2⟩, h => by
    subst e
    exact RepL.get' (i := i) h2 h
end

section
variable {X : Cx} {W : Fm} {ρ : En} {K : Nat → D → Prop} {a b c e : Expr} {pos : Pos}
/-! ### names, constants -/
theorem se_va (i : Nat) {x : Str} {d : D} (k : K ρ.n d) (hl : ρ.s[i]? = some (.va d) := by rfl) (hN : X.N[i]? = some x := by rfl) (hv : Vis X.env.scope x := by first | exact Or.inl rfl | exact Or.inr (Or.inl rfl) | exact Or.inr (Or.inr rfl))
    (hd : (x == ("__debug__" : Str)) = false := by decide) (hcd : (x == ("__classdict__" : Str)) = false := by decide) : SE X W ρ (.Name x pos) K :=
  SE.of (pe_var hN hv hd hcd) fun σ H Q r f => by
    obtain ⟨v, e, p⟩ := r.slot i _ hl
    exact ⟨v, e, f.now r p k⟩
def Sl.dat : Sl → Option D
  | .un => none
  | .va d => some d
  | .ow d => some d
  | .br d => some d
theorem sb_nm (i : Nat) {x : Str} {l : Sl} {d : D} (k : K ρ.n d) (hl : ρ.s[i]? = some l := by rfl) (hd : l.dat = some d := by rfl) (hN : X.N[i]? = some x := by rfl) (hv : Vis X.env.scope x := by first | exact Or.inl rfl | exact Or.inr (Or.inl rfl) | exact Or.inr (Or.inr rfl))
    (hdb : (x == ("__debug__" : Str)) = false := by decide) (hcd : (x == ("__classdict__" : Str)) = false := by decide) : SB X W ρ (.Name x pos) K :=
  SB.of (pe_var hN hv hdb hcd) fun σ H Q r f => by
    have h := r.slot i _ hl
    cases l with
    | un => cases hd
    | va d' =>
      cases hd
      obtain ⟨v, e, p⟩ := h
      exact ⟨v, e, f v H ρ.n d (.refl W.g H) r (r.toRd p) k⟩
    | ow d' =>
      cases hd
      obtain ⟨v, e, n, _, p⟩ := h
      exact ⟨_, e, f _ H ρ.n d (.refl W.g H) r (Con.rd (r.notG n) p) k⟩
    | br d' =>
      cases hd
      obtain ⟨v, e, _, n, p⟩ := h
      exact ⟨_, e, f _ H ρ.n d (.refl W.g H) r (Con.rd n p) k⟩
theorem se_int {i : Int} {j : Nat} (k : K ρ.n (.int i)) : SE X W ρ (.Constant (.int i) j pos) K := SE.of pe_int fun σ H Q r f => f.now r (d := .int i) rfl k
theorem se_bl {i : Bool} {j : Nat} (k : K ρ.n (.bl i)) : SE X W ρ (.Constant (.bool i) j pos) K := SE.of pe_bl fun σ H Q r f => f.now r (d := .bl i) rfl k
theorem se_non {j : Nat} (k : K ρ.n .non) : SE X W ρ (.Constant .none j pos) K := SE.of pe_non fun σ H Q r f => f.now r (d := .non) rfl k
theorem se_str {x : Str} {j : Nat} (k : K ρ.n (.str x)) : SE X W ρ (.Constant (.str x) j pos) K := SE.of pe_str fun σ H Q r f => f.now r (d := .str x) rfl k
/-- a module's constant: an int or a text -/
theorem se_gi {x : Str} {i : Int} {t : Tok} (hm : X.mg x = some (.int i t)) (k : K ρ.n (.int i)) (hg : Gl X x := by rfl) (hd : (x == ("__debug__" : Str)) = false := by decide) : SE X W ρ (.Name x pos) K :=
  SE.of (pe_glob hg hm (v := .int i) ⟨t, rfl⟩ hd) fun σ H Q r f => f.now r (d := .int i) rfl k
theorem se_gs {x : Str} {i : Str} {t : Tok} (hm : X.mg x = some (.str i t)) (k : K ρ.n (.str i)) (hg : Gl X x := by rfl) (hd : (x == ("__debug__" : Str)) = false := by decide) : SE X W ρ (.Name x pos) K :=
  SE.of (pe_glob hg hm (v := .str i) ⟨t, rfl⟩ hd) fun σ H Q r f => f.now r (d := .str i) rfl k
/-- a module's tuple of texts -/
theorem RepL.strs {g : G} {K : PySem.W.Frag} {w : World} {H : Hp} {F : Addr → Prop} : ∀ (ss : List Str), RepL K w g H F (ss.map D.str) (ss.map V.str)
  | [] => rfl
  | s :: ss => ⟨.str s, ss.map V.str, rfl, rfl, RepL.strs ss⟩
theorem se_gt {x : Str} {p : Addr} {ss : List Str} (hm : X.mg x = some (.ref p)) (ht : ∀ H, SqT X.K H p (ss.map V.str)) (k : K ρ.n (.tup (ss.map D.str))) (hg : Gl X x := by rfl) (hd : (x == ("__debug__" : Str)) = false := by decide) : SE X W ρ (.Name x pos) K :=
  SE.of (pe_glob hg hm (v := .ref p) rfl hd) fun σ H Q r f => f.now r (d := .tup (ss.map D.str)) ⟨p, _, rfl, ht H, RepL.strs ss⟩ k

/-! ### arithmetic -/
inductive AddD : D → D → D → Prop
  | int {i j : Int} : AddD (.int i) (.int j) (.int (i + j))
  | str {x y : Str} : x.length + y.length ≤ sizeLine → AddD (.str x) (.str y) (.str (x ++ y))
  | lst {xs ys : List D} : xs.length + ys.length ≤ sizeLine → AddD (.lst xs) (.lst ys) (.lst (xs ++ ys))
  | tup {xs ys : List D} : xs.length + ys.length ≤ sizeLine → AddD (.tup xs) (.tup ys) (.tup (xs ++ ys))
theorem addD_op {x y z : D} (ad : AddD x y z) (k : K ρ.n z) : OpD X W ρ (fun x y H Q => (((rI0 fun i j => V.int (i + j)) x y H Q ∨ ∃ i j, x = .str i ∧ y = .str j ∧ i.length + j.length ≤ sizeLine ∧ Q (.str (i ++ j)) H) ∨ rCat x y H Q) ∨ rCatA X.K x y H Q) x y K := by
  intro σ H vx vy Q r px py f
  cases ad with
  | @int i j => exact .inl (.inl (.inl ⟨_, _, px, py, f.now r (d := .int (i + j)) rfl k⟩))
  | @str i j hz => exact .inl (.inl (.inr ⟨_, _, px, py, hz, f.now r (d := .str (i ++ j)) rfl k⟩))
  | lst hz =>
    obtain ⟨p, xs, e1, _, q1, r1⟩ := px
    obtain ⟨p', ys, e2, _, q2, r2⟩ := py
    refine .inl (.inr ⟨p, p', xs, ys, e1, e2, q1, q2, ?_, fun l hl => f.lst r (r1.append r2) k hl⟩)
    rw [← r1.length, ← r2.length]
    exact hz
  | @tup xs' ys' hz =>
    obtain ⟨p, xs, e1, q1, r1⟩ := px
    obtain ⟨p', ys, e2, q2, r2⟩ := py
    have r3 := r1.append r2
    refine .inr ⟨p, p', xs, ys, e1, e2, q1, q2, ?_, fun e => ?_, fun _ e => ?_, fun _ _ l hl => f.tup r r3 k hl⟩
    · rw [← r1.length, ← r2.length]
      exact hz
    · subst e
      exact f.now r (d := .tup (xs' ++ ys')) ⟨p', ys, rfl, q2, r3⟩ k
    · subst e
      rw [List.append_nil] at r3
      exact f.now r (d := .tup (xs' ++ ys')) ⟨p, xs, rfl, q1, r3⟩ k
theorem se_add (h : SB X W ρ a fun n x => SB X W (ρ.to n) b fun m y => ∃ z, AddD x y z ∧ K m z) : SE X W ρ (.BinOp a .Add b pos) K :=
  se_bin (((op_add.or op_add_str).or op_cat).or op_catA) (h.imp fun _ _ h => h.imp fun _ _ ⟨_, ad, k⟩ => addD_op ad k)
/-- two ints -/
theorem intD_op {C : Int → Int → Prop} {q : Int → Int → V} {i j : Int} {d : D} (c : C i j) (hd : ∀ H F, Rep X.K X.w W.g H F d (q i j)) (k : K ρ.n d) : OpD X W ρ (rI C q) (.int i) (.int j) K :=
  fun σ H vx vy Q r px py f => ⟨i, j, px, py, c, f.now r (hd H _) k⟩
theorem intD0_op {q : Int → Int → V} {i j : Int} {d : D} (hd : ∀ H F, Rep X.K X.w W.g H F d (q i j)) (k : K ρ.n d) : OpD X W ρ (rI0 q) (.int i) (.int j) K :=
  fun σ H vx vy Q r px py f => ⟨i, j, px, py, f.now r (hd H _) k⟩
theorem se_sub (h : SB X W ρ a fun n x => SB X W (ρ.to n) b fun m y => ∃ i j, x = .int i ∧ y = .int j ∧ K m (.int (i - j))) : SE X W ρ (.BinOp a .Sub b pos) K :=
  se_bin op_sub (h.imp fun _ _ h => h.imp fun _ _ ⟨i, j, e1, e2, k⟩ => by subst e1 e2; exact intD0_op (d := .int (i - j)) (fun _ _ => rfl) k)
theorem se_mul (h : SB X W ρ a fun n x => SB X W (ρ.to n) b fun m y => ∃ i j, x = .int i ∧ y = .int j ∧ CMul i j ∧ K m (.int (i * j))) : SE X W ρ (.BinOp a .Mult b pos) K :=
  se_bin op_mul (h.imp fun _ _ h => h.imp fun _ _ ⟨i, j, e1, e2, c, k⟩ => by subst e1 e2; exact intD_op (d := .int (i * j)) c (fun _ _ => rfl) k)
theorem se_fdiv (h : SB X W ρ a fun n x => SB X W (ρ.to n) b fun m y => ∃ i j, x = .int i ∧ y = .int j ∧ CDiv i j ∧ K m (.int (i / j))) : SE X W ρ (.BinOp a .FloorDiv b pos) K :=
  se_bin op_fdiv (h.imp fun _ _ h => h.imp fun _ _ ⟨i, j, e1, e2, c, k⟩ => by subst e1 e2; exact intD_op (d := .int (i / j)) c (fun _ _ => rfl) k)
theorem se_mod (h : SB X W ρ a fun n x => SB X W (ρ.to n) b fun m y => ∃ i j, x = .int i ∧ y = .int j ∧ 0 < j ∧ K m (.int (i % j))) : SE X W ρ (.BinOp a .Mod b pos) K :=
  se_bin op_mod (h.imp fun _ _ h => h.imp fun _ _ ⟨i, j, e1, e2, c, k⟩ => by subst e1 e2; exact intD_op (C := fun _ j => 0 < j) (d := .int (i % j)) c (fun _ _ => rfl) k)
theorem se_pow (h : SB X W ρ a fun n x => SB X W (ρ.to n) b fun m y => ∃ i j, x = .int i ∧ y = .int j ∧ CPow i j ∧ K m (.int (i ^ j.toNat))) : SE X W ρ (.BinOp a .Pow b pos) K :=
  se_bin op_pow (h.imp fun _ _ h => h.imp fun _ _ ⟨i, j, e1, e2, c, k⟩ => by subst e1 e2; exact intD_op (d := .int (i ^ j.toNat)) c (fun _ _ => rfl) k)
/-- [x] * n -/
theorem se_repL {j : Int} (h : SB X W ρ a fun n x => SB X W (ρ.to n) b fun m y => ∃ xs i, x = .lst xs ∧ y = .int i ∧ 0 ≤ i ∧ i ≤ 1000 ∧ xs.length ≤ 1000 ∧ K m (.lst (List.replicate i.toNat xs).flatten)) : SE X W ρ (.BinOp a .Mult b pos) K := by
  refine se_bin op_rep (h.imp fun _ _ h => h.imp fun _ _ ⟨xs, i, e1, e2, c1, c2, c3, k⟩ => ?_)
  subst e1 e2
  intro σ H vx vy Q r px py f
  obtain ⟨p, vs, e1, _, q1, r1⟩ := px
  have hl := r1.length
  refine ⟨p, i, vs, e1, py, q1, by omega, by omega, ?_, fun l hl => f.lst r ?_ k hl⟩
  · have : i.toNat ≤ 1000 := by omega
    have h2 : vs.length * i.toNat ≤ 1000 * 1000 := Nat.mul_le_mul (by omega) this
    exact Nat.le_trans h2 (by decide)
  · generalize i.toNat = m
    induction m with
    | zero => exact rfl
    | succ m ih =>
      rw [List.replicate_succ, List.flatten_cons, List.replicate_succ, List.flatten_cons]
      exact r1.append ih
theorem se_neg (h : SB X W ρ a fun n x => ∃ i, x = .int i ∧ K n (.int (-i))) : SE X W ρ (.UnaryOp .USub a pos) K :=
  SE.of (pe_un un_neg (pe_XB (W := W) (ρ := ρ))) fun σ H Q r f => ⟨ρ.n, r, _, h, fun v H1 n d s1 r1 p1 ⟨i, e, k⟩ => by
    subst e
    exact ⟨i, p1, f _ H1 n (.int (-i)) s1 r1 rfl k⟩⟩

/-! ### comparisons: as values and as tests -/
/-- a comparison of two expressions -/
def SC (X : Cx) (W : Fm) (ρ : En) (op : CmpOp) (a b : Expr) (K : Nat → Bool → Prop) : Prop :=
  ∃ r, OpR X (compareOp op) r ∧ SB X W ρ a fun n x => SB X W (ρ.to n) b fun m y => OpD X W (ρ.to m) r x y fun n d => ∃ k, d = .bl k ∧ K n k
theorem se_cmp {op : CmpOp} (h : SC X W ρ op a b fun n k => K n (.bl k)) (hm : behindInMarks op b = false := by first | exact nobehind _ (by decide) (by decide) | rfl) : SE X W ρ (.Compare a [op] [b] pos) K := by
  obtain ⟨r, ho, h⟩ := h
  refine se_cmpR ho (h.imp fun _ _ h => h.imp fun _ _ h => ?_) hm
  exact fun σ H vx vy Q r px py f => h σ H vx vy Q r px py fun v H' n d a b c ⟨k, e, hk⟩ => f v H' n d a b c (by subst e; exact hk)
theorem st_cmp {op : CmpOp} {K : Nat → Bool → Prop} (h : SC X W ρ op a b K) (hm : behindInMarks op b = false := by first | exact nobehind _ (by decide) (by decide) | rfl) : STt X W ρ (.Compare a [op] [b] pos) K := by
  obtain ⟨r, ho, h⟩ := h
  exact st_cmpR ho h hm
section
variable {K : Nat → Bool → Prop}
theorem sc_int {op : CmpOp} {q : Int → Int → Bool} (ho : OpR X (compareOp op) (rI0 fun i j => .bl (q i j))) (h : SB X W ρ a fun n x => SB X W (ρ.to n) b fun m y => ∃ i j, x = .int i ∧ y = .int j ∧ K m (q i j)) : SC X W ρ op a b K :=
  ⟨_, ho, h.imp fun _ _ h => h.imp fun _ _ ⟨i, j, e1, e2, k⟩ => by subst e1 e2; exact intD0_op (d := .bl (q i j)) (fun _ _ => rfl) ⟨_, rfl, k⟩⟩
theorem sc_lt (h : SB X W ρ a fun n x => SB X W (ρ.to n) b fun m y => ∃ i j, x = .int i ∧ y = .int j ∧ K m (decide (i < j))) : SC X W ρ .Lt a b K := sc_int op_lt h
theorem sc_le (h : SB X W ρ a fun n x => SB X W (ρ.to n) b fun m y => ∃ i j, x = .int i ∧ y = .int j ∧ K m (decide (i ≤ j))) : SC X W ρ .LtE a b K := sc_int op_le h
theorem sc_gt (h : SB X W ρ a fun n x => SB X W (ρ.to n) b fun m y => ∃ i j, x = .int i ∧ y = .int j ∧ K m (decide (j < i))) : SC X W ρ .Gt a b K := sc_int op_gt h
theorem sc_ge (h : SB X W ρ a fun n x => SB X W (ρ.to n) b fun m y => ∃ i j, x = .int i ∧ y = .int j ∧ K m (decide (j ≤ i))) : SC X W ρ .GtE a b K := sc_int op_ge h
def D.isN : D → Bool
  | .non => true
  | _ => false
theorem Rdv.isN {K : PySem.W.Frag} {w : World} {g : G} {H : Hp} {F : Addr → Prop} : ∀ {d : D} {v : V}, Rdv K w g H F d v → decide (v = .non) = d.isN
  | .non, v, h => by
    have e : v = .non := h
    subst e
    rfl
  | .bl _, v, h => by
    have e : v = .bl _ := h
    subst e
    rfl
  | .int _, v, h => by
    have e : v = .int _ := h
    subst e
    rfl
  | .str _, v, h => by
    have e : v = .str _ := h
    subst e
    rfl
  | .tup _, v, h => by
    obtain ⟨p, _, e, _⟩ := h
    subst e
    rfl
  | .lst _, v, h => by
    obtain ⟨p, _, e, _⟩ := h
    subst e
    rfl
  | .dct _ _, v, h => by
    obtain ⟨p, _, _, e, _⟩ := h
    subst e
    rfl
  | .obj _ _ _, v, h => by
    obtain ⟨p, _, _, e, _⟩ := h
    subst e
    rfl
  | .src, v, h => by
    obtain ⟨p, _, e⟩ := h
    subst e
    rfl
  | .scr _, v, h => by
    obtain ⟨p, e, _⟩ := h
    subst e
    rfl
  | .pin _ _, v, h => by
    obtain ⟨e, _⟩ := h
    subst e
    rfl
  | .adr _, v, h => by
    have e : v = .ref _ := h
    subst e
    rfl
theorem sc_is {j : Nat} {p : Pos} (h : SB X W ρ a fun n x => K n x.isN) : SC X W ρ .Is a (.Constant .none j p) K :=
  ⟨_, op_isN, h.imp fun n x k => (se_non (K := fun m y => OpD X W ((ρ.to n).to m) _ x y _) (ρ := ρ.to n) fun σ H vx vy Q r px py f => ⟨py, f.now r (d := .bl x.isN) (by rw [px.isN]; rfl) ⟨_, rfl, k⟩⟩).sb⟩
theorem sc_isnot {j : Nat} {p : Pos} (h : SB X W ρ a fun n x => K n (!x.isN)) : SC X W ρ .IsNot a (.Constant .none j p) K :=
  ⟨_, op_notN, h.imp fun n x k => (se_non (K := fun m y => OpD X W ((ρ.to n).to m) _ x y _) (ρ := ρ.to n) fun σ H vx vy Q r px py f => ⟨py, f.now r (d := .bl (!x.isN)) (by rw [px.isN]; rfl) ⟨_, rfl, k⟩⟩).sb⟩
end
/-! ### and, or, not, if -/
theorem se_and1 {op : BoolOp} (h : SE X W ρ a K) : SE X W ρ (.BoolOp op [a] pos) K := SE.of (pe_one (pe_X (W := W) (ρ := ρ))) fun σ H Q r f => ⟨ρ.n, r, _, h, f⟩
theorem se_and {rest : List Expr} (h : SE X W ρ a fun n x => ∃ k, x = .bl k ∧ (if k = true then SE X W (ρ.to n) (.BoolOp .And (b :: rest) pos) K else K n (.bl false))) : SE X W ρ (.BoolOp .And (a :: b :: rest) pos) K :=
  SE.of (pe_and (pe_X (W := W) (ρ := ρ)) (pe_X (W := W) (ρ := ρ))) fun σ H Q r f => ⟨ρ.n, r, _, h, fun v H1 n d s1 r1 p1 ⟨k, e, h1⟩ => by
    subst e
    refine ⟨k, p1, ?_⟩
    cases k with
    | true =>
      rw [if_pos rfl] at h1 ⊢
      exact ⟨n, r1, _, h1, f.later s1⟩
    | false =>
      rw [if_neg Bool.false_ne_true] at h1 ⊢
      exact f _ H1 n (.bl false) s1 r1 rfl h1⟩
theorem se_or {rest : List Expr} (h : SE X W ρ a fun n x => ∃ k, x = .bl k ∧ (if k = true then K n (.bl true) else SE X W (ρ.to n) (.BoolOp .Or (b :: rest) pos) K)) : SE X W ρ (.BoolOp .Or (a :: b :: rest) pos) K :=
  SE.of (pe_or (pe_X (W := W) (ρ := ρ)) (pe_X (W := W) (ρ := ρ))) fun σ H Q r f => ⟨ρ.n, r, _, h, fun v H1 n d s1 r1 p1 ⟨k, e, h1⟩ => by
    subst e
    refine ⟨k, p1, ?_⟩
    cases k with
    | true =>
      rw [if_pos rfl] at h1 ⊢
      exact f _ H1 n (.bl true) s1 r1 rfl h1
    | false =>
      rw [if_neg Bool.false_ne_true] at h1 ⊢
      exact ⟨n, r1, _, h1, f.later s1⟩⟩
theorem se_not (h : SE X W ρ a fun n x => ∃ k, x = .bl k ∧ K n (.bl (!k))) : SE X W ρ (.UnaryOp .Not a pos) K :=
  SE.of (pe_not (pe_X (W := W) (ρ := ρ))) fun σ H Q r f => ⟨ρ.n, r, _, h, fun v H1 n d s1 r1 p1 ⟨k, e, h1⟩ => by
    subst e
    exact ⟨k, p1, f _ H1 n (.bl (!k)) s1 r1 rfl h1⟩⟩
theorem se_ifE (h : STt X W ρ c fun n k => if k = true then SE X W (ρ.to n) a K else SE X W (ρ.to n) b K) : SE X W ρ (.IfExp c a b pos) K :=
  SE.of (pe_ifExp (pt_X (W := W) (ρ := ρ)) (pe_X (W := W) (ρ := ρ)) (pe_X (W := W) (ρ := ρ))) fun σ H Q r f => ⟨ρ.n, r, _, h, fun k H1 n s1 r1 h1 => by
    cases k with
    | true =>
      rw [if_pos rfl] at h1 ⊢
      exact ⟨n, r1, _, h1, f.later s1⟩
    | false =>
      rw [if_neg Bool.false_ne_true] at h1 ⊢
      exact ⟨n, r1, _, h1, f.later s1⟩⟩
/-- a test that is a plain bool value -/
theorem st_val {K : Nat → Bool → Prop} (h : SE X W ρ e fun n x => ∃ k, x = .bl k ∧ K n k) (he : ∀ whole, isTrue e X.env whole = (do let v ← whole; standAt e.pos; holding [v] (truthy v)) := by intro _; rfl) : STt X W ρ e K :=
  STt.of (pt_val (pe_X (W := W) (ρ := ρ)) he) fun σ H Q r f => ⟨ρ.n, r, _, h, fun v H1 n d s1 r1 p1 ⟨k, e, h1⟩ => by
    subst e
    exact ⟨k, p1, f k H1 n s1 r1 h1⟩⟩
theorem st_not {K : Nat → Bool → Prop} (h : STt X W ρ a fun n k => K n (!k)) : STt X W ρ (.UnaryOp .Not a pos) K :=
  STt.of (pt_not (pt_X (W := W) (ρ := ρ))) fun σ H Q r f => ⟨ρ.n, r, _, h, fun k H1 n s1 r1 h1 => f (!k) H1 n s1 r1 h1⟩
/-- a test whatever its 'whole' is -/
def SW (X : Cx) (W : Fm) (ρ : En) (e : Expr) (K : Nat → Bool → Prop) : Prop :=
  ∀ (whole : Sem Value) (pins : List (Addr × Obj)) (s : Shared) (σ : L2.St) (H : Hp), Inv X pins σ H s → RE X.K X.w W H σ ρ → wpAny (model X.prog X.w) X.A (isTrue e X.env whole)
    (fun b s' => ∃ H' n, Inv X pins σ H' s' ∧ SameG W.g H H' ∧ RE X.K X.w W H' σ (ρ.to n) ∧ K n b) X.xe s
def tXW (X : Cx) (W : Fm) (ρ : En) (e : Expr) : TT := fun σ H Q => ∃ n, RE X.K X.w W H σ (ρ.to n) ∧ ∃ K, SW X W (ρ.to n) e K ∧ FolT X W ρ σ H K Q
theorem pw_X : PW X e (tXW X W ρ e) := by
  refine ⟨fun wh pins s σ H Q I h => ?_⟩
  obtain ⟨n, r, K, hS, hQ⟩ := h
  exact thn (hS wh pins s σ H I r) fun b s' ⟨H', m, I', sm, r', k⟩ => ⟨H', I', hQ b H' m sm r' k⟩
theorem SW.of {t : TT} {K : Nat → Bool → Prop} (h : PW X e t) (q : ∀ σ H Q, RE X.K X.w W H σ ρ → FolT X W ρ σ H K Q → t σ H Q) : SW X W ρ e K := fun wh pins s σ H I r =>
  thn (h.run wh pins s σ H (fun b H' => ∃ n, SameG W.g H H' ∧ RE X.K X.w W H' σ (ρ.to n) ∧ K n b) I (q σ H _ r fun v H' n a b k => ⟨n, a, b, k⟩)) fun b s' ⟨H', I', n, a1, a2, k⟩ => ⟨H', n, I', a1, a2, k⟩
theorem SW.st {K : Nat → Bool → Prop} (h : SW X W ρ e K) : STt X W ρ e K := fun pins s σ H I r => h _ pins s σ H I r
theorem sw_one {op : BoolOp} {K : Nat → Bool → Prop} (h : STt X W ρ a K) : SW X W ρ (.BoolOp op [a] pos) K := by
  cases op with
  | And => exact SW.of (pw_and1 (pt_X (W := W) (ρ := ρ))) fun σ H Q r f => ⟨ρ.n, r, _, h, f⟩
  | Or => exact SW.of (pw_or1 (pt_X (W := W) (ρ := ρ))) fun σ H Q r f => ⟨ρ.n, r, _, h, f⟩
theorem sw_and {rest : List Expr} {K : Nat → Bool → Prop} (h : STt X W ρ a fun n k => if k = true then SW X W (ρ.to n) (.BoolOp .And (b :: rest) pos) K else K n false) : SW X W ρ (.BoolOp .And (a :: b :: rest) pos) K :=
  SW.of (pw_and (pt_X (W := W) (ρ := ρ)) (pw_X (W := W) (ρ := ρ))) fun σ H Q r f => ⟨ρ.n, r, _, h, fun k H1 n s1 r1 h1 => by
    cases k with
    | true =>
      rw [if_pos rfl] at h1 ⊢
      exact ⟨n, r1, _, h1, f.later s1⟩
    | false =>
      rw [if_neg Bool.false_ne_true] at h1 ⊢
      exact f false H1 n s1 r1 h1⟩
theorem sw_or {rest : List Expr} {K : Nat → Bool → Prop} (h : STt X W ρ a fun n k => if k = true then K n true else SW X W (ρ.to n) (.BoolOp .Or (b :: rest) pos) K) : SW X W ρ (.BoolOp .Or (a :: b :: rest) pos) K :=
  SW.of (pw_or (pt_X (W := W) (ρ := ρ)) (pw_X (W := W) (ρ := ρ))) fun σ H Q r f => ⟨ρ.n, r, _, h, fun k H1 n s1 r1 h1 => by
    cases k with
    | true =>
      rw [if_pos rfl] at h1 ⊢
      exact f true H1 n s1 r1 h1
    | false =>
      rw [if_neg Bool.false_ne_true] at h1 ⊢
      exact ⟨n, r1, _, h1, f.later s1⟩⟩

/-! ### displays -/
theorem se_tup {es : List Expr} {j : Nat} (h : SA X W ρ es fun n ds => ds.length ≤ sizeLine ∧ K n (.tup ds)) : SE X W ρ (.Tuple es j pos) K :=
  SE.of (pe_tup (pa_X (W := W) (ρ := ρ))) fun σ H Q r f => ⟨ρ.n, r, _, h, fun vs H1 n ds s1 r1 p1 ⟨hz, k⟩ => ⟨by rw [← p1.length]; exact hz, fun p hp => (f.later s1).tup r1 p1 k hp⟩⟩
theorem se_lst {es : List Expr} (h : SA X W ρ es fun n ds => ds.length ≤ sizeLine ∧ K n (.lst ds)) : SE X W ρ (.List es pos) K :=
  SE.of (pe_lst (pa_X (W := W) (ρ := ρ))) fun σ H Q r f => ⟨ρ.n, r, _, h, fun vs H1 n ds s1 r1 p1 ⟨hz, k⟩ => ⟨by rw [← p1.length]; exact hz, fun p hp => (f.later s1).lst r1 p1 k hp⟩⟩
end
end Sk
set_option maxHeartbeats 4000000
/-! S4: environments changed; what a frame owns; statements. -/
namespace Sk
open PySem PySem.Spec PyProof.Rows L2

def Fm.add (W : Fm) (p : Addr) : Fm := ⟨W.g, p :: W.O, W.B⟩

section
variable {K : PySem.W.Frag} {w : World} {W : Fm} {H H' : Hp} {σ : L2.St} {ρ : En}
theorem get_set_eq {α : Type} {l : List α} {i : Nat} {x y : α} (h : (l.set i x)[i]? = some y) : y = x ∧ i < l.length := by
  rw [List.getElem?_set] at h
  by_cases hi : i < l.length
  · simp only [hi, if_true] at h
    exact ⟨(Option.some.inj h).symm, hi⟩
  · simp [hi] at h
theorem get_set_ne {α : Type} {l : List α} {i j : Nat} {x : α} (h : j ≠ i) : (l.set i x)[j]? = l[j]? := List.getElem?_set_ne (Ne.symm h)
/-- the environment anew: each slot is as it was, or forgotten, or holds a value -/
theorem RE.re (r : RE K w W H σ ρ) {σ' : L2.St} {s' : List Sl} (hl : s'.length = σ'.length) (hf : ∀ b, Fb W.O σ' s' b → Fb W.O σ ρ.s b)
    (hs : ∀ (i : Nat) (l : Sl), s'[i]? = some l → l = .un ∨ (ρ.s[i]? = some l ∧ σ'[i]? = σ[i]?) ∨ ∃ d v, l = .va d ∧ σ'[i]? = some (some v) ∧ Rep K w W.g H (Fb W.O σ ρ.s) d v) : RE K w W H σ' ⟨ρ.n, s', ρ.h⟩ := by
  have up : ∀ {d : D} {v : V}, Rep K w W.g H (Fb W.O σ ρ.s) d v → Rep K w W.g H (Fb W.O σ' s') d v := fun h => r.rep (.refl W.g H) (fun b _ n _ z => n (hf b z)) (fun _ => fb_O) h
  have upL : ∀ {d : List D} {v : List V}, RepL K w W.g H (Fb W.O σ ρ.s) d v → RepL K w W.g H (Fb W.O σ' s') d v := fun h => r.repL (.refl W.g H) (fun b _ n _ z => n (hf b z)) (fun _ => fb_O) h
  have upC : ∀ {d : D} {a : Addr}, Con K w W.g H (Fb W.O σ ρ.s) a d → Con K w W.g H (Fb W.O σ' s') a d := fun {d a} h => by
    cases d with
    | lst ds => obtain ⟨vs, e, h⟩ := h; exact ⟨vs, e, upL h⟩
    | dct ks ds => obtain ⟨kv, vs, e, h1, h2, h3⟩ := h; exact ⟨kv, vs, e, upL h1, upL h2, h3⟩
    | obj c ns ds => obtain ⟨dx, vs, e, h, l⟩ := h; exact ⟨dx, vs, e, upL h, l⟩
    | non => exact h.elim
    | bl _ => exact h.elim
    | int _ => exact h.elim
    | str _ => exact h.elim
    | tup _ => exact h.elim
    | src => exact h.elim
    | scr _ => exact h.elim
    | pin _ _ => exact h.elim
    | adr _ => exact h.elim
  refine ⟨hl, r.same, r.src, r.tr, fun p hp => up (r.gh p hp), fun i l e => ?_, fun i j d d' a e1 e2 e3 e4 => ?_⟩
  · rcases hs i l e with e1 | ⟨e1, e2⟩ | ⟨d, v, e1, e2, h⟩
    · subst e1
      trivial
    · have h := r.slot i l e1
      cases l with
      | un => trivial
      | va d =>
        obtain ⟨v, e3, h⟩ := h
        exact ⟨v, e2.trans e3, up h⟩
      | ow d =>
        obtain ⟨v, e3, h1, h2, h⟩ := h
        exact ⟨v, e2.trans e3, h1, h2, upC h⟩
      | br d =>
        obtain ⟨v, e3, h1, h2, h⟩ := h
        exact ⟨v, e2.trans e3, h1, h2, upC h⟩
    · subst e1
      exact ⟨v, e2, up h⟩
  · rcases hs i _ e1 with z | ⟨z, z2⟩ | ⟨_, _, z, _⟩
    · cases z
    · rcases hs j _ e2 with y | ⟨y, y2⟩ | ⟨_, _, y, _⟩
      · cases y
      · rw [z2] at e3
        rw [y2] at e4
        exact r.apart i j d d' a z y e3 e4
      · cases y
    · cases z
theorem RE.setVa (r : RE K w W H σ ρ) {d : D} {v : V} (i : Nat) (h : Rep K w W.g H (Fb W.O σ ρ.s) d v) : RE K w W H (σ.set i (some v)) (ρ.set i (.va d)) := by
  refine r.re (by rw [List.length_set, List.length_set]; exact r.len) (fun b z => ?_) fun j l e => ?_
  · rcases z with z | ⟨j, d', e1, e2⟩
    · exact .inl z
    · by_cases hj : j = i
      · subst hj
        cases (get_set_eq e1).1
      · rw [get_set_ne hj] at e1 e2
        exact .inr ⟨j, d', e1, e2⟩
  · by_cases hj : j = i
    · subst hj
      obtain ⟨e1, e2⟩ := get_set_eq e
      refine .inr (.inr ⟨d, v, e1, ?_, h⟩)
      rw [List.getElem?_set, if_pos rfl, if_pos (by rw [← r.len]; exact e2)]
    · rw [get_set_ne hj] at e
      exact .inr (.inl ⟨e, get_set_ne hj⟩)
/-- a slot forgotten -/
theorem RE.forget (r : RE K w W H σ ρ) (i : Nat) : RE K w W H σ (ρ.set i .un) := by
  refine r.re (by rw [List.length_set]; exact r.len) (fun b z => ?_) fun j l e => ?_
  · rcases z with z | ⟨j, d', e1, e2⟩
    · exact .inl z
    · by_cases hj : j = i
      · subst hj
        cases (get_set_eq e1).1
      · rw [get_set_ne hj] at e1
        exact .inr ⟨j, d', e1, e2⟩
  · by_cases hj : j = i
    · subst hj
      exact .inl (get_set_eq e).1
    · rw [get_set_ne hj] at e
      exact .inr (.inl ⟨e, rfl⟩)
theorem Con.rep {g : G} {F : Addr → Prop} {a : Addr} (n : ¬ F a) : ∀ {d : D}, Con K w g H F a d → Rep K w g H F d (.ref a)
  | .lst ds, ⟨vs, e, h⟩ => ⟨a, vs, rfl, n, e, h⟩
  | .dct ks ds, ⟨kv, vs, e, h⟩ => ⟨a, kv, vs, rfl, n, e, h⟩
  | .obj c ns ds, ⟨dx, vs, e, h⟩ => ⟨a, dx, vs, rfl, n, e, h⟩
  | .non, h => h.elim
  | .bl _, h => h.elim
  | .int _, h => h.elim
  | .str _, h => h.elim
  | .tup _, h => h.elim
  | .src, h => h.elim
  | .scr _, h => h.elim
  | .pin _ _, h => h.elim
  | .adr _, h => h.elim
theorem Con.mono {g : G} {F F' : Addr → Prop} {a : Addr} (up : ∀ {d : List D} {v : List V}, RepL K w g H F d v → RepL K w g H' F' d v) (st : ∀ o, H a = some o → H' a = some o) : ∀ {d : D}, Con K w g H F a d → Con K w g H' F' a d
  | .lst ds, ⟨vs, e, h⟩ => ⟨vs, st _ e, up h⟩
  | .dct ks ds, ⟨kv, vs, e, h1, h2, h3⟩ => ⟨kv, vs, st _ e, up h1, up h2, h3⟩
  | .obj c ns ds, ⟨dx, vs, e, h, l⟩ => ⟨dx, vs, st _ e, up h, l⟩
  | .non, h => h.elim
  | .bl _, h => h.elim
  | .int _, h => h.elim
  | .str _, h => h.elim
  | .tup _, h => h.elim
  | .src, h => h.elim
  | .scr _, h => h.elim
  | .pin _ _, h => h.elim
  | .adr _, h => h.elim
/-- what is one's own becomes a value -/
theorem RE.freeze (r : RE K w W H σ ρ) {i : Nat} {d : D} (hi : ρ.s[i]? = some (.ow d)) : RE K w W H σ (ρ.set i (.va d)) := by
  obtain ⟨a, e0, n1, n2, c⟩ := r.slot i _ hi
  have hil : i < ρ.s.length := (List.getElem?_eq_some_iff.mp hi).1
  have sub : ∀ b, Fb W.O σ (ρ.s.set i (.va d)) b → Fb W.O σ ρ.s b := fun b z => by
    rcases z with z | ⟨j, d', e1, e2⟩
    · exact .inl z
    · by_cases hj : j = i
      · subst hj
        cases (get_set_eq e1).1
      · rw [get_set_ne hj] at e1
        exact .inr ⟨j, d', e1, e2⟩
  have na : ¬ Fb W.O σ (ρ.s.set i (.va d)) a := fun z => by
    rcases z with z | ⟨j, d', e1, e2⟩
    · exact n1 z
    · by_cases hj : j = i
      · subst hj
        cases (get_set_eq e1).1
      · rw [get_set_ne hj] at e1
        exact hj (r.apart j i d' d a e1 hi e2 e0)
  have r1 : RE K w W H σ (ρ.set i .un) := r.forget i
  have e3 : Fb W.O σ (ρ.set i .un).s = Fb W.O σ (ρ.s.set i (.va d)) := by
    funext b
    refine propext ⟨fun z => ?_, fun z => ?_⟩
    · rcases z with z | ⟨j, d', e1, e2⟩
      · exact .inl z
      · by_cases hj : j = i
        · subst hj
          cases (get_set_eq e1).1
        · have e1' : (ρ.s.set i .un)[j]? = some (.ow d') := e1
          rw [get_set_ne hj] at e1'
          exact .inr ⟨j, d', by rw [get_set_ne hj]; exact e1', e2⟩
    · rcases z with z | ⟨j, d', e1, e2⟩
      · exact .inl z
      · by_cases hj : j = i
        · subst hj
          cases (get_set_eq e1).1
        · rw [get_set_ne hj] at e1
          exact .inr ⟨j, d', by show (ρ.s.set i .un)[j]? = _; rw [get_set_ne hj]; exact e1, e2⟩
  have rep : Rep K w W.g H (Fb W.O σ (ρ.set i .un).s) d (.ref a) := by
    rw [e3]
    refine Con.rep na (Con.mono (fun {ds vs} h => ?_) (fun _ e => e) c)
    exact r.repL (.refl W.g H) (fun b _ n _ z => n (sub b z)) (fun _ => fb_O) h
  have r2 := r1.setVa i rep
  have es : σ.set i (some (V.ref a)) = σ := by
    apply List.ext_getElem?
    intro j
    by_cases hj : j = i
    · subst hj
      rw [List.getElem?_set, if_pos rfl, if_pos (by rw [← r.len]; exact hil), e0]
    · exact get_set_ne hj
  rw [es] at r2
  have e4 : (ρ.set i .un).set i (.va d) = ρ.set i (.va d) := by
    show (⟨ρ.n, (ρ.s.set i .un).set i (.va d), ρ.h⟩ : En) = ⟨ρ.n, ρ.s.set i (.va d), ρ.h⟩
    rw [List.set_set]
  rw [e4] at r2
  exact r2
/-- nothing stands at the entry where nothing stands now -/
theorem RE.fresh0 (r : RE K w W H σ ρ) {p : Addr} (hp : H p = none) : W.B p = none ∧ p ∉ W.O := by
  have ho : p ∉ W.O := fun z => by
    obtain ⟨o, e⟩ := r.tr p z
    rw [hp] at e
    cases e
  refine ⟨?_, ho⟩
  cases q : W.B p with
  | none => rfl
  | some o =>
    have := r.same p o q (r.notG ho)
    rw [hp] at this
    cases this
/-- a new object, that is nobody's -/
theorem RE.addNew (r : RE K w W H σ ρ) {p : Addr} {o : HO} (hp : H p = none) : RE K w (W.add p) (upd H p o) σ ρ := by
  have sm : Same H (upd H p o) := same_new hp
  have sg : SameG W.g H (upd H p o) := .of sm
  have hf : ∀ b u, ¬ Fb W.O σ ρ.s b → H b = some u → ¬ Fb (p :: W.O) σ ρ.s b := fun b u n e z => by
    rcases z with z | z
    · rcases List.mem_cons.mp z with z | z
      · subst z
        rw [hp] at e
        cases e
      · exact n (.inl z)
    · exact n (.inr z)
  have up : ∀ {d : D} {v : V}, Rep K w W.g H (Fb W.O σ ρ.s) d v → Rep K w W.g (upd H p o) (Fb (p :: W.O) σ ρ.s) d v := fun h => r.rep sg hf (fun _ => fb_O) h
  have upL : ∀ {d : List D} {v : List V}, RepL K w W.g H (Fb W.O σ ρ.s) d v → RepL K w W.g (upd H p o) (Fb (p :: W.O) σ ρ.s) d v := fun h => r.repL sg hf (fun _ => fb_O) h
  refine ⟨r.len, fun a u e n => sm a u (r.same a u e n), fun q e => ?_, fun a h => ?_, fun q hq => up (r.gh q hq), fun i l e => ?_, r.apart⟩
  · obtain ⟨h1, h2, h2', h3⟩ := r.src q e
    exact ⟨List.mem_cons_of_mem _ h1, List.mem_cons_of_mem _ h2, ⟨List.mem_cons_of_mem _ h2'.1, fun t ht => List.mem_cons_of_mem _ (h2'.2 t ht)⟩, h3.same sm⟩
  · rcases List.mem_cons.mp h with z | z
    · subst z
      exact ⟨o, upd_same⟩
    · obtain ⟨u, e⟩ := r.tr a z
      exact ⟨u, sm a u e⟩
  · have h := r.slot i l e
    cases l with
    | un => trivial
    | va d =>
      obtain ⟨v, e1, h⟩ := h
      exact ⟨v, e1, up h⟩
    | ow d =>
      obtain ⟨a, e1, n1, n2, h⟩ := h
      refine ⟨a, e1, fun z => ?_, n2, Con.mono upL (fun u e => sm a u e) h⟩
      rcases List.mem_cons.mp z with z | z
      · obtain ⟨u, e⟩ := h.there
        rw [z, hp] at e
        cases e
      · exact n1 z
    | br d =>
      obtain ⟨a, e1, n1, n2, h⟩ := h
      exact ⟨a, e1, List.mem_cons_of_mem _ n1, n2, Con.mono upL (fun u e => sm a u e) h⟩
/-- p, new here, is put into slot i as the frame's own -/
theorem RE.setOw {p : Addr} (r : RE K w (W.add p) H σ ρ) (r0 : RE K w W H σ ρ) {d : D} (i : Nat) (ho : p ∉ W.O) (hb : W.B p = none) (c : Con K w W.g H (Fb (p :: W.O) σ ρ.s) p d) : RE K w W H (σ.set i (some (.ref p))) (ρ.set i (.ow d)) := by
  have sub : ∀ b, Fb W.O (σ.set i (some (.ref p))) (ρ.s.set i (.ow d)) b → Fb (p :: W.O) σ ρ.s b := fun b z => by
    rcases z with z | ⟨j, d', e1, e2⟩
    · exact .inl (List.mem_cons_of_mem _ z)
    · by_cases hj : j = i
      · subst hj
        obtain ⟨e3, e4⟩ := get_set_eq e2
        have e5 : V.ref b = V.ref p := Option.some.inj e3
        cases e5
        exact .inl List.mem_cons_self
      · rw [get_set_ne hj] at e1 e2
        exact .inr ⟨j, d', e1, e2⟩
  have gO : ∀ b, ¬ Fb (p :: W.O) σ ρ.s b → b ∉ (W.add p).O := fun b n z => n (.inl z)
  have up : ∀ {d' : D} {v : V}, Rep K w W.g H (Fb (p :: W.O) σ ρ.s) d' v → Rep K w W.g H (Fb W.O (σ.set i (some (.ref p))) (ρ.s.set i (.ow d))) d' v := fun h => r.rep (W := W.add p) (.refl W.g H) (fun b _ n _ z => n (sub b z)) gO h
  have upL : ∀ {d' : List D} {v : List V}, RepL K w W.g H (Fb (p :: W.O) σ ρ.s) d' v → RepL K w W.g H (Fb W.O (σ.set i (some (.ref p))) (ρ.s.set i (.ow d))) d' v := fun h => r.repL (W := W.add p) (.refl W.g H) (fun b _ n _ z => n (sub b z)) gO h
  refine ⟨by show (ρ.s.set i _).length = _; rw [List.length_set, List.length_set]; exact r.len, r0.same, r0.src, r0.tr, fun q hq => up (r.gh q hq), fun j l e => ?_, fun j k d1 d2 a e1 e2 e3 e4 => ?_⟩
  · have e' : (ρ.s.set i (.ow d))[j]? = some l := e
    by_cases hj : j = i
    · subst hj
      obtain ⟨e1, e2⟩ := get_set_eq e'
      subst e1
      refine ⟨p, ?_, ho, hb, Con.mono upL (fun _ z => z) c⟩
      rw [List.getElem?_set, if_pos rfl, if_pos (by rw [← r.len]; exact e2)]
    · rw [get_set_ne hj] at e'
      have h := r.slot j l e'
      have h0 := r0.slot j l e'
      cases l with
      | un => trivial
      | va d' =>
        obtain ⟨v, e1, h⟩ := h
        exact ⟨v, by rw [get_set_ne hj]; exact e1, up h⟩
      | ow d' =>
        obtain ⟨a, e1, n1, n2, h⟩ := h
        obtain ⟨a', e1', n1', _⟩ := h0
        rw [e1] at e1'
        cases e1'
        exact ⟨a, by rw [get_set_ne hj]; exact e1, n1', n2, Con.mono upL (fun u e => e) h⟩
      | br d' =>
        obtain ⟨a, e1, n1, n2, h⟩ := h
        obtain ⟨a', e1', n1', _⟩ := h0
        rw [e1] at e1'
        cases e1'
        exact ⟨a, by rw [get_set_ne hj]; exact e1, n1', n2, Con.mono upL (fun u e => e) h⟩
  · have e1' : (ρ.s.set i (.ow d))[j]? = some (.ow d1) := e1
    have e2' : (ρ.s.set i (.ow d))[k]? = some (.ow d2) := e2
    by_cases hj : j = i
    · by_cases hk : k = i
      · exact hj.trans hk.symm
      · rw [get_set_ne hk] at e2' e4
        subst hj
        obtain ⟨e5, _⟩ := get_set_eq e3
        cases e5
        obtain ⟨a', e6, n1, _⟩ := r.slot k _ e2'
        rw [e4] at e6
        cases e6
        exact absurd List.mem_cons_self n1
    · rw [get_set_ne hj] at e1' e3
      by_cases hk : k = i
      · subst hk
        obtain ⟨e5, _⟩ := get_set_eq e4
        cases e5
        obtain ⟨a', e6, n1, _⟩ := r.slot j _ e1'
        rw [e3] at e6
        cases e6
        exact absurd List.mem_cons_self n1
      · rw [get_set_ne hk] at e2' e4
        exact r.apart j k d1 d2 a e1' e2' e3 e4
/-- the frame's own list, dict or object is changed -/
theorem RE.write (r : RE K w W H σ ρ) {i : Nat} {d d' : D} {a : Addr} {o : HO} (hi : ρ.s[i]? = some (.ow d)) (ha : σ[i]? = some (some (.ref a))) (c : ∀ (F : Addr → Prop), (∀ {ds : List D} {vs : List V}, RepL K w W.g H (Fb W.O σ ρ.s) ds vs → RepL K w W.g (upd H a o) F ds vs) → Con K w W.g (upd H a o) F a d') : RE K w W (upd H a o) σ (ρ.set i (.ow d')) := by
  obtain ⟨a', e0, n1, n2, c0⟩ := r.slot i _ hi
  rw [ha] at e0
  cases e0
  have hil : i < ρ.s.length := (List.getElem?_eq_some_iff.mp hi).1
  have nf : Fb W.O σ ρ.s a := .inr ⟨i, d, hi, ha⟩
  have sub : ∀ b, Fb W.O σ (ρ.s.set i (.ow d')) b → Fb W.O σ ρ.s b := fun b z => by
    rcases z with z | ⟨j, d1, e1, e2⟩
    · exact .inl z
    · by_cases hj : j = i
      · subst hj
        rw [ha] at e2
        cases e2
        exact nf
      · rw [get_set_ne hj] at e1
        exact .inr ⟨j, d1, e1, e2⟩
  have kp : ∀ b u, b ≠ a → H b = some u → (upd H a o) b = some u := fun b u n e => by rw [upd_ne n]; exact e
  obtain ⟨o0, h0⟩ := c0.there
  have tne : ∀ b ys, H b = some (HO.tup ys) → b ≠ a := fun b ys e z => by
    subst z
    cases d with
    | lst ds => obtain ⟨vs, e', _⟩ := c0; rw [e] at e'; cases e'
    | dct ks ds => obtain ⟨kv, vs, e', _⟩ := c0; rw [e] at e'; cases e'
    | obj cc ns ds => obtain ⟨dx, vs, e', _⟩ := c0; rw [e] at e'; cases e'
    | non => exact c0.elim
    | bl _ => exact c0.elim
    | int _ => exact c0.elim
    | str _ => exact c0.elim
    | tup _ => exact c0.elim
    | src => exact c0.elim
    | scr _ => exact c0.elim
    | pin _ _ => exact c0.elim
    | adr _ => exact c0.elim
  have fne : ∀ b ob u, H b = some (HO.frz ob u) → b ≠ a := fun b ob u e z => by
    subst z
    cases d with
    | lst ds => obtain ⟨vs, e', _⟩ := c0; rw [e] at e'; cases e'
    | dct ks ds => obtain ⟨kv, vs, e', _⟩ := c0; rw [e] at e'; cases e'
    | obj cc ns ds => obtain ⟨dx, vs, e', _⟩ := c0; rw [e] at e'; cases e'
    | non => exact c0.elim
    | bl _ => exact c0.elim
    | int _ => exact c0.elim
    | str _ => exact c0.elim
    | tup _ => exact c0.elim
    | src => exact c0.elim
    | scr _ => exact c0.elim
    | pin _ _ => exact c0.elim
    | adr _ => exact c0.elim
  have hk : ∀ b u, ¬ Fb W.O σ ρ.s b → H b = some u → (upd H a o) b = some u ∧ ¬ Fb W.O σ (ρ.s.set i (.ow d')) b := fun b u n e => ⟨kp b u (fun z => n (z ▸ nf)) e, fun z => n (sub b z)⟩
  have up : ∀ {d1 : D} {v : V}, Rep K w W.g H (Fb W.O σ ρ.s) d1 v → Rep K w W.g (upd H a o) (Fb W.O σ (ρ.s.set i (.ow d'))) d1 v := fun h => Rep.mono (fun b ys e => kp b _ (tne b ys e) e) (fun b ob u e => kp b _ (fne b ob u e) e) hk _ _ h
  have upL : ∀ {d1 : List D} {v : List V}, RepL K w W.g H (Fb W.O σ ρ.s) d1 v → RepL K w W.g (upd H a o) (Fb W.O σ (ρ.s.set i (.ow d'))) d1 v := fun h => RepL.mono (fun b ys e => kp b _ (tne b ys e) e) (fun b ob u e => kp b _ (fne b ob u e) e) hk _ _ h
  refine ⟨by show (ρ.s.set i _).length = _; rw [List.length_set]; exact r.len, fun b u e n => ?_, fun q e => ?_, fun b h => ?_, fun q hq => up (r.gh q hq), fun j l e => ?_, fun j k d1 d2 b e1 e2 e3 e4 => ?_⟩
  · exact kp b u (fun z => by subst z; rw [n2] at e; cases e) (r.same b u e n)
  · obtain ⟨h1, h2, h2', ⟨L, C, q', t, h3, h4, h5, h6⟩, tb⟩ := r.src q e
    have ng := r.notG n1 q e
    refine ⟨h1, h2, h2', ⟨L, C, q', t, kp _ _ ng.1.symm h3, kp _ _ ng.2.1.symm h4, kp _ _ (fun z => n1 (z ▸ h2'.1)) h5, h6⟩, ?_⟩
    cases d with
    | lst ds => obtain ⟨vs, e', _⟩ := c0; exact tabs_upd tb e' (fun _ z => by cases z) fun _ => lst_code
    | dct ks ds => obtain ⟨kv, vs, e', _⟩ := c0; exact tabs_upd tb e' (fun _ z => by unfold dO at z; cases z) fun _ => dO_code
    | obj cc ns ds => obtain ⟨dx, vs, e', _⟩ := c0; exact tabs_upd tb e' (fun _ z => by cases z) fun _ => ins_code
    | non => exact c0.elim
    | bl _ => exact c0.elim
    | int _ => exact c0.elim
    | str _ => exact c0.elim
    | tup _ => exact c0.elim
    | src => exact c0.elim
    | scr _ => exact c0.elim
    | pin _ _ => exact c0.elim
    | adr _ => exact c0.elim
  · by_cases hb : b = a
    · subst hb
      exact ⟨o, upd_same⟩
    · obtain ⟨u, e⟩ := r.tr b h
      exact ⟨u, kp b u hb e⟩
  · have e' : (ρ.s.set i (.ow d'))[j]? = some l := e
    by_cases hj : j = i
    · subst hj
      obtain ⟨e1, e2⟩ := get_set_eq e'
      subst e1
      exact ⟨a, ha, n1, n2, c _ upL⟩
    · rw [get_set_ne hj] at e'
      have h := r.slot j l e'
      cases l with
      | un => trivial
      | va d1 =>
        obtain ⟨v, e1, h⟩ := h
        exact ⟨v, e1, up h⟩
      | ow d1 =>
        obtain ⟨b, e1, m1, m2, h⟩ := h
        refine ⟨b, e1, m1, m2, Con.mono upL (fun u e => kp b u (fun z => ?_) e) h⟩
        subst z
        exact hj (r.apart j i d1 d b e' hi e1 ha)
      | br d1 =>
        obtain ⟨b, e1, m1, m2, h⟩ := h
        exact ⟨b, e1, m1, m2, Con.mono upL (fun u e => kp b u (fun z => n1 (z ▸ m1)) e) h⟩
  · have e1' : (ρ.s.set i (.ow d'))[j]? = some (.ow d1) := e1
    have e2' : (ρ.s.set i (.ow d'))[k]? = some (.ow d2) := e2
    have old : ∀ {j : Nat} {d1 : D}, (ρ.s.set i (.ow d'))[j]? = some (.ow d1) → ∃ d2, ρ.s[j]? = some (.ow d2) := fun {j d1} e => by
      by_cases hj : j = i
      · subst hj
        exact ⟨d, hi⟩
      · rw [get_set_ne hj] at e
        exact ⟨d1, e⟩
    obtain ⟨_, z1⟩ := old e1'
    obtain ⟨_, z2⟩ := old e2'
    exact r.apart j k _ _ b z1 z2 e3 e4
end
end Sk
set_option maxHeartbeats 4000000
/-! S5: new things, targets, statements, loops. -/
namespace Sk
open PySem PySem.Spec PyProof.Rows L2

/-! ### expressions whose value is new -/
section
variable (X : Cx) (W : Fm) (ρ : En)
def SF (e : Expr) (K : Nat → D → Prop) : Prop :=
  ∀ (pins : List (Addr × Obj)) (s : Shared) (σ : L2.St) (H : Hp), Inv X pins σ H s → RE X.K X.w W H σ ρ → wpAny (model X.prog X.w) X.A (eval e X.env)
    (fun u s' => ∃ p H' n d, Inv X pins σ H' s' ∧ u = .ref p ∧ SameG W.g H H' ∧ H p = none ∧ RE X.K X.w W H' σ (ρ.to n) ∧ RE X.K X.w (W.add p) H' σ (ρ.to n) ∧ Con X.K X.w W.g H' (Fb (p :: W.O) σ ρ.s) p d ∧ K n d) X.xe s
def FolF (σ : L2.St) (H : Hp) (K : Nat → D → Prop) (Q : VK) : Prop :=
  ∀ p H' n d, SameG W.g H H' → H p = none → RE X.K X.w W H' σ (ρ.to n) → RE X.K X.w (W.add p) H' σ (ρ.to n) → Con X.K X.w W.g H' (Fb (p :: W.O) σ ρ.s) p d → K n d → Q (.ref p) H'
def tXF (e : Expr) : TE := fun σ H Q => ∃ n, RE X.K X.w W H σ (ρ.to n) ∧ ∃ K, SF X W (ρ.to n) e K ∧ FolF X W ρ σ H K Q
end
section
variable {X : Cx} {W : Fm} {ρ : En} {e : Expr} {K : Nat → D → Prop} {pos : Pos} {H H1 : Hp} {σ : L2.St}
theorem pe_XF : PE X e (tXF X W ρ e) := by
  refine ⟨fun pins s σ H Q I h => ?_⟩
  obtain ⟨n, r, K, hS, hQ⟩ := h
  exact thn (hS pins s σ H I r) fun u s' ⟨p, H', m, d, I', e, sm, hp, r', r2, c, k⟩ => ⟨.ref p, H', I', e, hQ p H' m d sm hp r' r2 c k⟩
theorem SF.of {t : TE} (h : PE X e t) (q : ∀ σ H Q, RE X.K X.w W H σ ρ → FolF X W ρ σ H K Q → t σ H Q) : SF X W ρ e K := fun pins s σ H I r => by
  refine thn (h.run pins s σ H (fun v H' => ∃ p n d, v = .ref p ∧ SameG W.g H H' ∧ H p = none ∧ RE X.K X.w W H' σ (ρ.to n) ∧ RE X.K X.w (W.add p) H' σ (ρ.to n) ∧ Con X.K X.w W.g H' (Fb (p :: W.O) σ ρ.s) p d ∧ K n d) I (q σ H _ r fun p H' n d a b c a' b' k => ⟨p, n, d, rfl, a, b, c, a', b', k⟩)) ?_
  rintro u s' ⟨v, H', I', rv, p, n, d, e, a, b, c, a', b', k⟩
  subst e
  exact ⟨p, H', n, d, I', rv, a, b, c, a', b', k⟩
theorem SF.se (h : SF X W ρ e K) : SE X W ρ e K := fun pins s σ H I r =>
  thn (h pins s σ H I r) fun u s' ⟨p, H', n, d, I', e, sm, hp, r', r2, c, k⟩ => by
    refine ⟨.ref p, H', n, d, I', e, sm, r', ?_, k⟩
    have n0 : ¬ Fb W.O σ ρ.s p := by
      have z := r.fresh hp
      exact z
    refine Con.rep n0 (Con.mono (fun {ds vs} h => ?_) (fun _ e => e) c)
    refine r2.repL (W := W.add p) (.refl W.g H') (fun b u n _ z => n ?_) (fun b n z => n (.inl z)) h
    rcases z with z | z
    · exact .inl (List.mem_cons_of_mem _ z)
    · exact .inr z
theorem SF.imp {K' : Nat → D → Prop} (h : SF X W ρ e K) (q : ∀ n d, K n d → K' n d) : SF X W ρ e K' := fun pins s σ H I r =>
  thn (h pins s σ H I r) fun u s' ⟨p, H', n, d, a1, a2, a3, a4, a5, a6, a7, k⟩ => ⟨p, H', n, d, a1, a2, a3, a4, a5, a6, a7, q n d k⟩
theorem FolF.later {Q : VK} {n : Nat} (f : FolF X W ρ σ H K Q) (s : SameG W.g H H1) (hn : ∀ p, H1 p = none → H p = none) : FolF X W (ρ.to n) σ H1 K Q :=
  fun p H' n d a b c a' b' k => f p H' n d (s.trans a) (hn p b) c a' b' k
theorem RE.free {K : PySem.W.Frag} {w : World} (r : RE K w W H σ ρ) {n : Nat} (r1 : RE K w W H1 σ (ρ.to n)) (s : SameG W.g H H1) (p : Addr) (h : H1 p = none) : H p = none := by
  cases q : H p with
  | none => rfl
  | some o =>
    have ho : p ∉ W.O := fun z => by
      obtain ⟨o, e⟩ := r1.tr p z
      rw [h] at e
      cases e
    have := s p o q (r.notG ho)
    rw [h] at this
    cases this
theorem FolF.lst {Q : VK} {vs : List V} {ds : List D} {p : Addr} (f : FolF X W ρ σ H K Q) (r : RE X.K X.w W H σ ρ) (rp : RepL X.K X.w W.g H (Fb W.O σ ρ.s) ds vs) (k : K ρ.n (.lst ds)) (hp : H p = none) : Q (.ref p) (upd H p (.lst vs)) := by
  refine f p _ ρ.n (.lst ds) (.of (same_new hp)) hp (r.stay (same_new hp)) (r.addNew hp) ⟨vs, upd_same, ?_⟩ k
  refine r.repL (.of (same_new hp)) (fun b u n e z => ?_) (fun _ => fb_O) rp
  rcases z with z | z
  · rcases List.mem_cons.mp z with z | z
    · subst z
      rw [hp] at e
      cases e
    · exact n (.inl z)
  · exact n (.inr z)
theorem sf_lst {es : List Expr} (h : SA X W ρ es fun n ds => ds.length ≤ sizeLine ∧ K n (.lst ds)) : SF X W ρ (.List es pos) K :=
  SF.of (pe_lst (pa_X (W := W) (ρ := ρ))) fun σ H Q r f => ⟨ρ.n, r, _, h, fun vs H1 n ds s1 r1 p1 ⟨hz, k⟩ => ⟨by rw [← p1.length]; exact hz, fun p hp => (f.later s1 (r.free r1 s1)).lst r1 p1 k hp⟩⟩
end

/-! ### targets -/
section
variable (X : Cx) (W : Fm)
def SG (ρ : En) (tg : Expr) (d : D) (K : En → Prop) : Prop :=
  ∀ (pins : List (Addr × Obj)) (s : Shared) (σ : L2.St) (H : Hp) (v : V) (u : Value), Inv X pins σ H s → RE X.K X.w W H σ ρ → RelV v u → Rep X.K X.w W.g H (Fb W.O σ ρ.s) d v →
    wpAny (model X.prog X.w) X.A (assign tg X.env u) (fun _ s' => ∃ σ' H' ρ', Inv X pins σ' H' s' ∧ RE X.K X.w W H' σ' ρ' ∧ K ρ') X.xe s
def gX (tg : Expr) : TG := fun v σ H Q => ∃ ρ d, RE X.K X.w W H σ ρ ∧ Rep X.K X.w W.g H (Fb W.O σ ρ.s) d v ∧ ∃ K, SG X W ρ tg d K ∧ ∀ σ' H' ρ', RE X.K X.w W H' σ' ρ' → K ρ' → Q σ' H'
def SGs (ρ : En) (tgs : List Expr) (ds : List D) (K : En → Prop) : Prop :=
  ∀ (pins : List (Addr × Obj)) (s : Shared) (σ : L2.St) (H : Hp) (vs : List V) (us : List Value), Inv X pins σ H s → RE X.K X.w W H σ ρ → Vals vs us → RepL X.K X.w W.g H (Fb W.O σ ρ.s) ds vs →
    wpAny (model X.prog X.w) X.A (assignInOrder ((assignEach tgs X.env).map (·.2)) us) (fun _ s' => ∃ σ' H' ρ', Inv X pins σ' H' s' ∧ RE X.K X.w W H' σ' ρ' ∧ K ρ') X.xe s
end
section
variable {X : Cx} {W : Fm} {ρ : En} {tg : Expr} {pos : Pos} {d : D} {K : En → Prop}
theorem pg_X : PG X tg (gX X W tg) := by
  refine ⟨fun pins s σ H v u Q I rv h => ?_⟩
  obtain ⟨ρ, d, r, p, K, hS, hQ⟩ := h
  exact thn (hS pins s σ H v u I r rv p) fun _ s' ⟨σ', H', ρ', a, b, c⟩ => ⟨σ', H', a, hQ σ' H' ρ' b c⟩
theorem sg_nm (i : Nat) {x : Str} (h : K (ρ.set i (.va d))) (hN : X.N.Nodup) (hi : X.N[i]? = some x := by rfl) (hx : Loc X.env.scope x := by first | exact Or.inl rfl | exact Or.inr rfl) (hf : X.fn x = true ∨ X.env.scope.names.lookup x = some .local := by first | exact .inl rfl | exact .inr rfl | assumption) : SG X W ρ (.Name x pos) d K :=
  fun pins s σ H v u I r rv p => wpAny_assign_Name (store_ok I hN hi hx rv (fun s' I' => ⟨_, H, _, I', r.setVa i p, h⟩) hf)
/-- two names; by the layer's rule -/
theorem sg_tup2 {i j : Nat} {x y : Str} {p1 p2 : Pos} {k : Nat} {d1 d2 : D} (h : K ((ρ.set i (.va d1)).set j (.va d2))) (hc : X.calm = true) (hN : X.N.Nodup) (hij : i ≠ j) (hi : X.N[i]? = some x := by rfl) (hj : X.N[j]? = some y := by rfl)
    (hx : Loc X.env.scope x := by first | exact Or.inl rfl | exact Or.inr rfl) (hy : Loc X.env.scope y := by first | exact Or.inl rfl | exact Or.inr rfl)
    (hf : X.fn x = true ∨ X.env.scope.names.lookup x = some .local := by first | exact .inl rfl | exact .inr rfl | assumption) (hf2 : X.fn y = true ∨ X.env.scope.names.lookup y = some .local := by first | exact .inl rfl | exact .inr rfl | assumption) :
    SG X W ρ (.Tuple [.Name x p1, .Name y p2] k pos) (.tup [d1, d2]) K := fun pins s σ H v u I r rv p => by
  obtain ⟨a, vs, e, q, v1, r1, e1, h1, v2, r2, e2, h2, e3⟩ := p
  have e3' : r2 = [] := e3
  subst e e1 e2 e3'
  refine (pg_tup hc (pgs_cons (pg_name hN hi hx hf) (pgs_cons (pg_name hN hj hy hf2) pgs_nil))).run pins s σ H (.ref a) u (fun σ' H' => ∃ ρ', RE X.K X.w W H' σ' ρ' ∧ K ρ') I rv ?_ |> fun z => thn z fun _ s' ⟨σ', H', a, ρ', b, c⟩ => ⟨σ', H', ρ', a, b, c⟩
  refine ⟨a, [v1, v2], rfl, q, rfl, v1, [v2], rfl, v2, [], rfl, rfl, _, ?_, h⟩
  have r3 := r.setVa i h1
  refine r3.setVa j ?_
  refine r.rep (.refl W.g H) (fun b _ n _ z => n ?_) (fun _ => fb_O) h2
  rcases z with z | ⟨l, d', e1, e2⟩
  · exact .inl z
  · by_cases hl : l = i
    · subst hl
      have e1' : (ρ.s.set l (.va d1))[l]? = some (.ow d') := e1
      cases (get_set_eq e1').1
    · have e1' : (ρ.s.set i (.va d1))[l]? = some (.ow d') := e1
      rw [get_set_ne hl] at e1' e2
      exact .inr ⟨l, d', e1', e2⟩
end

/-! ### statements -/
section
variable {X : Cx} {W : Fm} {ρ : En} {R : RD} {e c : Expr} {a b body : List Stmt} {pos p1 : Pos} {sts : List Stmt}
theorem ss_freeze (i : Nat) {d : D} (h : SS X W (ρ.set i (.va d)) sts R) (hi : ρ.s[i]? = some (.ow d) := by rfl) : SS X W ρ sts R := fun pins s σ H I r => h pins s σ H I (r.freeze hi)
theorem ss_forget (i : Nat) (h : SS X W (ρ.set i .un) sts R) : SS X W ρ sts R := fun pins s σ H I r => h pins s σ H I (r.forget i)
theorem SN.imp {st : Stmt} {R' : RD} (h : SN X W ρ st R) (h1 : ∀ ρ', R.nx ρ' → R'.nx ρ') (h2 : ∀ n d, R.rt n d → R'.rt n d) (h3 : ∀ ρ', R.bk ρ' → R'.bk ρ') (h4 : ∀ ρ', R.ct ρ' → R'.ct ρ') : SN X W ρ st R' := fun pins s σ H I r =>
  thn (h pins s σ H I r) fun f s' q => by
    cases f with
    | next => obtain ⟨σ', H', ρ', x1, x2, x3⟩ := q; exact ⟨σ', H', ρ', x1, x2, h1 _ x3⟩
    | brk => obtain ⟨σ', H', ρ', x1, x2, x3⟩ := q; exact ⟨σ', H', ρ', x1, x2, h3 _ x3⟩
    | cont => obtain ⟨σ', H', ρ', x1, x2, x3⟩ := q; exact ⟨σ', H', ρ', x1, x2, h4 _ x3⟩
    | ret u => obtain ⟨v, σ', H', n, d, x1, x2, x3, x4, x5⟩ := q; exact ⟨v, σ', H', n, d, x1, x2, x3, x4, h2 _ _ x5⟩
theorem SS.imp {R' : RD} (h : SS X W ρ sts R) (h1 : ∀ ρ', R.nx ρ' → R'.nx ρ') (h2 : ∀ n d, R.rt n d → R'.rt n d) (h3 : ∀ ρ', R.bk ρ' → R'.bk ρ') (h4 : ∀ ρ', R.ct ρ' → R'.ct ρ') : SS X W ρ sts R' := fun pins s σ H I r =>
  thn (h pins s σ H I r) fun f s' q => by
    cases f with
    | next => obtain ⟨σ', H', ρ', x1, x2, x3⟩ := q; exact ⟨σ', H', ρ', x1, x2, h1 _ x3⟩
    | brk => obtain ⟨σ', H', ρ', x1, x2, x3⟩ := q; exact ⟨σ', H', ρ', x1, x2, h3 _ x3⟩
    | cont => obtain ⟨σ', H', ρ', x1, x2, x3⟩ := q; exact ⟨σ', H', ρ', x1, x2, h4 _ x3⟩
    | ret u => obtain ⟨v, σ', H', n, d, x1, x2, x3, x4, x5⟩ := q; exact ⟨v, σ', H', n, d, x1, x2, x3, x4, h2 _ _ x5⟩
theorem sn_ret (h : SE X W ρ e R.rt) : SN X W ρ (.Return (some e) pos) R :=
  SN.of (ps_ret (pe_X (W := W) (ρ := ρ))) fun σ H D r f => ⟨ρ.n, r, _, h, fun v H1 n d s1 r1 p1 k => f.rt v H1 n d r1.rt (r1.rep (.refl W.g H1) (fun b _ n _ z => n (.inl z)) (fun _ => fb_O) p1) k⟩
theorem sn_expr (h : SE X W ρ e fun n _ => R.nx (ρ.to n)) (hs : swapsWith e none pos.line X.env = pure false := by rfl) : SN X W ρ (.Expr e pos) R :=
  SN.of (ps_expr (pe_X (W := W) (ρ := ρ)) hs) fun σ H D r f => ⟨ρ.n, r, _, h, fun v H1 n d s1 r1 p1 k => f.nx σ H1 _ r1 k⟩
theorem sn_if (h : STt X W ρ c fun n k => if k = true then SS X W (ρ.to n) a R else SS X W (ρ.to n) b R) : SN X W ρ (.If c a b pos) R :=
  SN.of (ps_if (pt_X (W := W) (ρ := ρ)) (pss_X (W := W)) (pss_X (W := W))) fun σ H D r f => ⟨ρ.n, r, _, h, fun k H1 n s1 r1 h1 => by
    cases k with
    | true =>
      rw [if_pos rfl] at h1 ⊢
      exact ⟨_, r1, R, h1, f⟩
    | false =>
      rw [if_neg Bool.false_ne_true] at h1 ⊢
      exact ⟨_, r1, R, h1, f⟩⟩
/-- x = e -/
theorem sn_set (i : Nat) {x : Str} (hN : X.N.Nodup) (h : SE X W ρ e fun n d => R.nx ((ρ.to n).set i (.va d))) (hi : X.N[i]? = some x := by rfl) (hx : Loc X.env.scope x := by first | exact Or.inl rfl | exact Or.inr rfl)
    (hs : swapsWith e (some (.Name x p1)) pos.line X.env = pure false := by rfl) (hf : X.fn x = true ∨ X.env.scope.names.lookup x = some .local := by first | exact .inl rfl | exact .inr rfl | assumption) : SN X W ρ (.Assign [.Name x p1] e pos) R :=
  SN.of (ps_set hN hi hx (pe_X (W := W) (ρ := ρ)) hs hf) fun σ H D r f => ⟨ρ.n, r, _, h, fun v H1 n d s1 r1 p1 k => f.nx _ H1 _ (r1.setVa i p1) k⟩
/-- x = e, the value new and the frame's own -/
theorem sn_own (i : Nat) {x : Str} (hN : X.N.Nodup) (h : SF X W ρ e fun n d => R.nx ((ρ.to n).set i (.ow d))) (hi : X.N[i]? = some x := by rfl) (hx : Loc X.env.scope x := by first | exact Or.inl rfl | exact Or.inr rfl)
    (hs : swapsWith e (some (.Name x p1)) pos.line X.env = pure false := by rfl) (hf : X.fn x = true ∨ X.env.scope.names.lookup x = some .local := by first | exact .inl rfl | exact .inr rfl | assumption) : SN X W ρ (.Assign [.Name x p1] e pos) R :=
  SN.of (ps_set hN hi hx (pe_XF (W := W) (ρ := ρ)) hs hf) fun σ H D r f => ⟨ρ.n, r, _, h, fun p H1 n d s1 hp r1 r2 c k => f.nx _ H1 _ (r2.setOw r1 i (r.fresh0 hp).2 (r.fresh0 hp).1 c) k⟩
/-- a, b = e -/
theorem sn_unpack {tg : Expr} (h : SE X W ρ e fun n d => SG X W (ρ.to n) tg d R.nx) (hs : swapsWithSole [tg] e pos.line X.env = pure false := by rfl) (hw : swappedStores [tg] e X.env = pure none := by rfl)
    (h1 : (assignEach [tg] X.env).map (·.2) = [assign tg X.env] := by rfl) : SN X W ρ (.Assign [tg] e pos) R :=
  SN.of (ps_asg (pe_X (W := W) (ρ := ρ)) (pg_X (W := W)) hs hw h1) fun σ H D r f => ⟨ρ.n, r, _, h, fun v H1 n d s1 r1 p1 k => ⟨_, d, r1, p1, _, k, fun σ' H' ρ' a b => f.nx σ' H' ρ' a b⟩⟩

/-! ### loops -/
/-- the loop's body and what it leaves -/
def LoopR (R : RD) (γ γ0 : List (D × V)) (J : Nat → List Sl → Prop) : RD where
  nx := fun ρ' => ρ'.h = γ ∧ J ρ'.n ρ'.s
  rt := R.rt
  bk := fun ρ' => ρ'.h = γ ∧ R.nx ⟨ρ'.n, ρ'.s, γ0⟩
  ct := fun ρ' => ρ'.h = γ ∧ J ρ'.n ρ'.s
def Turns (X : Cx) (W : Fm) (R : RD) (tg : Expr) (body : List Stmt) (γ0 : List (D × V)) (ds : List D) (J : Nat → Nat → List Sl → Prop) : Prop :=
  ∀ (k : Nat) (d : D) (m : Nat) (s : List Sl) (γ : List (D × V)), ds[k]? = some d → J k m s → SG X W ⟨m, s, γ⟩ tg d fun ρ' => SS X W ρ' body (LoopR R γ γ0 (J (k + 1)))
theorem RE.hold {K : PySem.W.Frag} {w : World} {H : Hp} {σ : L2.St} (r : RE K w W H σ ρ) {d : D} {v : V} (h : Rep K w W.g H (Fb W.O σ ρ.s) d v) : RE K w W H σ ⟨ρ.n, ρ.s, (d, v) :: ρ.h⟩ :=
  ⟨r.len, r.same, r.src, r.tr, fun p hp => by
    rcases List.mem_cons.mp hp with z | z
    · subst z
      exact h
    · exact r.gh p z, r.slot, r.apart⟩
theorem RE.unhold {K : PySem.W.Frag} {w : World} {H : Hp} {σ : L2.St} (r : RE K w W H σ ρ) {γ : List (D × V)} (h : ∀ p ∈ γ, p ∈ ρ.h) : RE K w W H σ ⟨ρ.n, ρ.s, γ⟩ :=
  ⟨r.len, r.same, r.src, r.tr, fun p hp => r.gh p (h p hp), r.slot, r.apart⟩
theorem sn_forL {tg iter : Expr} (hp : PassesOwn (model X.prog X.w) X.A X.env X.xe) (hc : X.calm = true)
    (h : SE X W ρ iter fun n d => ∃ ds, d = .lst ds ∧ ∃ J : Nat → Nat → List Sl → Prop, J 0 n ρ.s ∧ Turns X W R tg body ρ.h ds J ∧ ∀ m s, J ds.length m s → R.nx ⟨m, s, ρ.h⟩)
    (hs : ∀ x, foldedSetIterable iter X.env x = pure x := by intro _; rfl) : SN X W ρ (.For tg iter body [] pos) R :=
  SN.of (ps_for hp hc (pi_list (pe_X (W := W) (ρ := ρ))) (pg_X (W := W)) (pss_X (W := W)) hs) fun σ H D r f => ⟨ρ.n, r, _, h, fun v H1 n d s1 r1 p1 ⟨ds, e, J, j0, turn, fin⟩ => by
    subst e
    obtain ⟨a, vs, e, nf, q, rl⟩ := id p1
    subst e
    refine ⟨a, rfl, ⟨vs, .of q⟩, fun k t σ' H' => t = ds.length - k ∧ k ≤ ds.length ∧ ∃ m s, RE X.K X.w W H' σ' ⟨m, s, (.lst ds, .ref a) :: ρ.h⟩ ∧ J k m s, ⟨ds.length, by omega, Nat.zero_le _, n, ρ.s, r1.hold p1, j0⟩, ?_⟩
    rintro k t σ' H' ⟨rfl, hk, m, s, r2, j⟩
    obtain ⟨a', us, e1, _, q', rl'⟩ := r2.gh _ List.mem_cons_self
    cases e1
    have el := rl'.length
    by_cases hlt : k < ds.length
    · obtain ⟨u, hu, hr⟩ := rl'.get (List.getElem?_eq_getElem hlt)
      refine .inr ⟨⟨us, u, .of q', hu⟩, fun σ2 H2 => ∃ m s, RE X.K X.w W H2 σ2 ⟨m, s, (.lst ds, .ref a) :: ρ.h⟩ ∧ J (k + 1) m s, fun σ2 H2 h2 => ⟨ds.length - (k + 1), by omega, rfl, hlt, h2⟩, fun x H2 hy => ?_⟩
      obtain ⟨e2, hy⟩ := hy
      subst e2
      have e3 : x = u := Option.some.inj ((hy us (.of q')).symm.trans hu)
      subst e3
      refine ⟨_, _, r2, hr, _, turn k _ m s _ (List.getElem?_eq_getElem hlt) j, fun σ3 H3 ρ3 r3 h3 => ⟨ρ3, r3, _, h3, ?_⟩⟩
      refine ⟨fun σ4 H4 ρ4 r4 ⟨e4, j4⟩ => ⟨ρ4.n, ρ4.s, e4 ▸ r4, j4⟩, f.rt, fun σ4 H4 ρ4 r4 ⟨e4, j4⟩ => f.nx σ4 H4 _ (r4.unhold fun p hp => by rw [e4]; exact List.mem_cons_of_mem _ hp) j4, fun σ4 H4 ρ4 r4 ⟨e4, j4⟩ => ⟨ρ4.n, ρ4.s, e4 ▸ r4, j4⟩⟩
    · have ek : k = ds.length := by omega
      subst ek
      exact .inl ⟨⟨us, .of q', by omega⟩, f.nx σ' H' ⟨m, s, ρ.h⟩ (r2.unhold fun p hp => List.mem_cons_of_mem _ hp) (fin m s j)⟩⟩
theorem sn_forT {tg iter : Expr} (hp : PassesOwn (model X.prog X.w) X.A X.env X.xe) (hc : X.calm = true)
    (h : SE X W ρ iter fun n d => ∃ ds, d = .tup ds ∧ ∃ J : Nat → Nat → List Sl → Prop, J 0 n ρ.s ∧ Turns X W R tg body ρ.h ds J ∧ ∀ m s, J ds.length m s → R.nx ⟨m, s, ρ.h⟩)
    (hs : ∀ x, foldedSetIterable iter X.env x = pure x := by intro _; rfl) : SN X W ρ (.For tg iter body [] pos) R :=
  SN.of (ps_for hp hc (pi_tup (pe_X (W := W) (ρ := ρ))) (pg_X (W := W)) (pss_X (W := W)) hs) fun σ H D r f => ⟨ρ.n, r, _, h, fun v H1 n d s1 r1 p1 ⟨ds, e, J, j0, turn, fin⟩ => by
    subst e
    obtain ⟨a, vs, e, q, rl⟩ := id p1
    subst e
    refine ⟨a, rfl, ⟨vs, q⟩, fun k t σ' H' => t = ds.length - k ∧ k ≤ ds.length ∧ ∃ m s, RE X.K X.w W H' σ' ⟨m, s, (.tup ds, .ref a) :: ρ.h⟩ ∧ J k m s, ⟨ds.length, by omega, Nat.zero_le _, n, ρ.s, r1.hold p1, j0⟩, ?_⟩
    rintro k t σ' H' ⟨rfl, hk, m, s, r2, j⟩
    obtain ⟨a', us, e1, q', rl'⟩ := r2.gh _ List.mem_cons_self
    cases e1
    have el := rl'.length
    by_cases hlt : k < ds.length
    · obtain ⟨u, hu, hr⟩ := rl'.get (List.getElem?_eq_getElem hlt)
      refine .inr ⟨⟨us, u, q', hu⟩, fun σ2 H2 => ∃ m s, RE X.K X.w W H2 σ2 ⟨m, s, (.tup ds, .ref a) :: ρ.h⟩ ∧ J (k + 1) m s, fun σ2 H2 h2 => ⟨ds.length - (k + 1), by omega, rfl, hlt, h2⟩, fun x H2 hy => ?_⟩
      obtain ⟨e2, hy⟩ := hy
      subst e2
      have e3 : x = u := Option.some.inj ((hy us q').symm.trans hu)
      subst e3
      refine ⟨_, _, r2, hr, _, turn k _ m s _ (List.getElem?_eq_getElem hlt) j, fun σ3 H3 ρ3 r3 h3 => ⟨ρ3, r3, _, h3, ?_⟩⟩
      refine ⟨fun σ4 H4 ρ4 r4 ⟨e4, j4⟩ => ⟨ρ4.n, ρ4.s, e4 ▸ r4, j4⟩, f.rt, fun σ4 H4 ρ4 r4 ⟨e4, j4⟩ => f.nx σ4 H4 _ (r4.unhold fun p hp => by rw [e4]; exact List.mem_cons_of_mem _ hp) j4, fun σ4 H4 ρ4 r4 ⟨e4, j4⟩ => ⟨ρ4.n, ρ4.s, e4 ▸ r4, j4⟩⟩
    · have ek : k = ds.length := by omega
      subst ek
      exact .inl ⟨⟨us, q', by omega⟩, f.nx σ' H' ⟨m, s, ρ.h⟩ (r2.unhold fun p hp => List.mem_cons_of_mem _ hp) (fin m s j)⟩⟩
/-- for x in range(n), range(m, n) -/
def rngD (lo : Int) (n : Nat) : List D := (List.range n).map fun i => D.int (lo + (i : Nat))
theorem rngD_length (lo : Int) (n : Nat) : (rngD lo n).length = n := by simp [rngD]
theorem rngD_get {lo : Int} {n k : Nat} (h : k < n) : (rngD lo n)[k]? = some (.int (lo + (k : Nat))) := by simp [rngD, h]
theorem range_loop {tg : Expr} {D : Ends} {lo : Int} {c : Nat} {σ : L2.St} {H : Hp} {n : Nat} (f : FolS X W R D) (r1 : RE X.K X.w W H σ (ρ.to n)) {J : Nat → Nat → List Sl → Prop} (j0 : J 0 n ρ.s) (turn : Turns X W R tg body ρ.h (rngD lo c) J) (fin : ∀ m s, J c m s → R.nx ⟨m, s, ρ.h⟩) :
    ∃ W' : Nat → Nat → L2.St → Hp → Prop, (∃ m, W' 0 m σ H) ∧ ∀ i m σ H, W' i m σ H → ((Itr lo c).stop i H ∧ D.nx σ H) ∨ ((Itr lo c).go i H ∧ ∃ N : L2.St → Hp → Prop, (∀ σ' H', N σ' H' → ∃ m', m' < m ∧ W' (i + 1) m' σ' H') ∧
      ∀ x H', (Itr lo c).yld i H x H' → gX X W tg x σ H' fun σ2 H2 => tXS X W body { D with nx := N, ct := N, bk := D.nx } σ2 H2) := by
  refine ⟨fun k t σ' H' => t = c - k ∧ k ≤ c ∧ ∃ m s, RE X.K X.w W H' σ' ⟨m, s, ρ.h⟩ ∧ J k m s, ⟨c, by omega, Nat.zero_le _, n, ρ.s, r1, j0⟩, ?_⟩
  rintro k t σ' H' ⟨rfl, hk, m, s, r2, j⟩
  by_cases hlt : k < c
  · refine .inr ⟨hlt, fun σ2 H2 => ∃ m s, RE X.K X.w W H2 σ2 ⟨m, s, ρ.h⟩ ∧ J (k + 1) m s, fun σ2 H2 h2 => ⟨c - (k + 1), by omega, rfl, hlt, h2⟩, fun x H2 hy => ?_⟩
    obtain ⟨e2, e3⟩ := hy
    subst e2 e3
    refine ⟨_, .int (lo + (k : Nat)), r2, rfl, _, turn k _ m s _ (rngD_get hlt) j, fun σ3 H3 ρ3 r3 h3 => ⟨ρ3, r3, _, h3, ?_⟩⟩
    refine ⟨fun σ4 H4 ρ4 r4 ⟨e4, j4⟩ => ⟨ρ4.n, ρ4.s, e4 ▸ r4, j4⟩, f.rt, fun σ4 H4 ρ4 r4 ⟨e4, j4⟩ => f.nx σ4 H4 _ (r4.unhold fun p hp => by rw [e4]; exact hp) j4, fun σ4 H4 ρ4 r4 ⟨e4, j4⟩ => ⟨ρ4.n, ρ4.s, e4 ▸ r4, j4⟩⟩
  · have ek : k = c := by omega
    subst ek
    exact .inl ⟨Nat.le_refl _, f.nx σ' H' ⟨m, s, ρ.h⟩ r2 (fin m s j)⟩
theorem sn_forR1 {tg a : Expr} {q1 q2 : Pos} (hp : PassesOwn (model X.prog X.w) X.A X.env X.xe) (hc : X.calm = true) (hm : X.mg "range" = none)
    (h : SA X W ρ [a] fun n ds => ∃ i, ds = [.int i] ∧ (-1000000 ≤ i ∧ i ≤ 1000000) ∧ ∃ J : Nat → Nat → List Sl → Prop, J 0 n ρ.s ∧ Turns X W R tg body ρ.h (rngD 0 i.toNat) J ∧ ∀ m s, J i.toNat m s → R.nx ⟨m, s, ρ.h⟩)
    (hg : Gl X "range" := by rfl) (hs : ∀ x, foldedSetIterable (.Call (.Name "range" q1) [a] [] q2) X.env x = pure x := by intro _; rfl) (hst : starEach [a] X.env = [(false, eval a X.env)] := by rfl) : SN X W ρ (.For tg (.Call (.Name "range" q1) [a] [] q2) body [] pos) R :=
  SN.of (ps_for hp hc (pi_range1 hg hm (pa_X (W := W) (ρ := ρ)) hst) (pg_X (W := W)) (pss_X (W := W)) hs) fun σ H D r f => ⟨ρ.n, r, _, h, fun vs H1 n ds s1 r1 p1 ⟨i, e, hi, J, j0, turn, fin⟩ => by
    subst e
    obtain ⟨v, r', e1, e2, e3⟩ := p1
    have e2' : v = .int i := e2
    have e3' : r' = [] := e3
    subst e1 e2' e3'
    exact ⟨i, rfl, by omega, by omega, range_loop f r1 j0 turn fin⟩⟩
theorem sn_forR2 {tg a b : Expr} {q1 q2 : Pos} (hp : PassesOwn (model X.prog X.w) X.A X.env X.xe) (hc : X.calm = true) (hm : X.mg "range" = none)
    (h : SA X W ρ [a, b] fun n ds => ∃ i j, ds = [.int i, .int j] ∧ (-1000000 ≤ i ∧ i ≤ 1000000 ∧ -1000000 ≤ j ∧ j ≤ 1000000) ∧ ∃ J : Nat → Nat → List Sl → Prop, J 0 n ρ.s ∧ Turns X W R tg body ρ.h (rngD i (j - i).toNat) J ∧ ∀ m s, J (j - i).toNat m s → R.nx ⟨m, s, ρ.h⟩)
    (hg : Gl X "range" := by rfl) (hs : ∀ x, foldedSetIterable (.Call (.Name "range" q1) [a, b] [] q2) X.env x = pure x := by intro _; rfl) (hst : starEach [a, b] X.env = [(false, eval a X.env), (false, eval b X.env)] := by rfl) (hst2 : starEach [b] X.env = [(false, eval b X.env)] := by rfl) :
    SN X W ρ (.For tg (.Call (.Name "range" q1) [a, b] [] q2) body [] pos) R :=
  SN.of (ps_for hp hc (pi_range2 hg hm (pa_X (W := W) (ρ := ρ)) hst hst2) (pg_X (W := W)) (pss_X (W := W)) hs) fun σ H D r f => ⟨ρ.n, r, _, h, fun vs H1 n ds s1 r1 p1 ⟨i, j, e, hi, J, j0, turn, fin⟩ => by
    subst e
    obtain ⟨v, r', e1, e2, v2, r2, e3, e4, e5⟩ := p1
    have e2' : v = .int i := e2
    have e4' : v2 = .int j := e4
    have e5' : r2 = [] := e5
    subst e1 e2' e3 e4' e5'
    exact ⟨i, j, rfl, by omega, range_loop f r1 j0 turn fin⟩⟩
/-- while -/
theorem sn_while (hp : PassesOwn (model X.prog X.w) X.A X.env X.xe) (J : En → Prop) (μ : En → Nat) (j0 : J ρ)
    (turn : ∀ ρ', J ρ' → STt X W ρ' c fun n k => if k = true then SS X W (ρ'.to n) body ⟨fun ρ2 => J ρ2 ∧ μ ρ2 < μ ρ', R.rt, R.nx, fun ρ2 => J ρ2 ∧ μ ρ2 < μ ρ'⟩ else R.nx (ρ'.to n)) : SN X W ρ (.While c body [] pos) R := by
  have pt : PT X c (fun σ H Q => ∃ ρ', RE X.K X.w W H σ ρ' ∧ ∃ K, STt X W ρ' c K ∧ FolT X W ρ' σ H K Q) := ⟨fun pins s σ H Q I ⟨ρ', r, K, hS, hQ⟩ => thn (hS pins s σ H I r) fun b s' ⟨H', m, I', sm, r', k⟩ => ⟨H', I', hQ b H' m sm r' k⟩⟩
  refine SN.of (ps_while hp pt (pss_X (W := W))) fun σ H D r f => ?_
  refine ⟨fun m σ H => ∃ ρ', RE X.K X.w W H σ ρ' ∧ J ρ' ∧ m = μ ρ', ⟨_, ρ, r, j0, rfl⟩, ?_⟩
  rintro m σ' H' ⟨ρ', r', j', rfl⟩
  refine ⟨ρ', r', _, turn ρ' j', fun b H2 n s2 r2 h2 => ?_⟩
  cases b with
  | true =>
    rw [if_pos rfl] at h2 ⊢
    refine ⟨fun σ3 H3 => ∃ ρ3, RE X.K X.w W H3 σ3 ρ3 ∧ J ρ3 ∧ μ ρ3 < μ ρ', fun σ3 H3 ⟨ρ3, r3, j3, l3⟩ => ⟨_, l3, ρ3, r3, j3, rfl⟩, ?_⟩
    exact ⟨_, r2, _, h2, fun σ4 H4 ρ4 r4 ⟨j4, l4⟩ => ⟨ρ4, r4, j4, l4⟩, f.rt, f.nx, fun σ4 H4 ρ4 r4 ⟨j4, l4⟩ => ⟨ρ4, r4, j4, l4⟩⟩
  | false =>
    rw [if_neg Bool.false_ne_true] at h2 ⊢
    exact f.nx σ' H2 _ r2 h2
end
end Sk
set_option maxHeartbeats 4000000
/-! S6: what is walked, told of data; loops and comprehensions over it. -/
namespace Sk
open PySem PySem.Spec PyProof.Rows L2

/-- a walk gives the data ds, while the values γ are held -/
structure ItOk (K : PySem.W.Frag) (w : World) (g : G) (J : It) (γ : List (D × V)) (ds : List D) : Prop where
  go : ∀ (W : Fm) (H : Hp) (σ : L2.St) (ρ : En) (i : Nat), W.g = g → RE K w W H σ ρ → (∀ p ∈ γ, p ∈ ρ.h) → i < ds.length → J.go i H
  yld : ∀ (W : Fm) (H : Hp) (σ : L2.St) (ρ : En) (i : Nat) (x : V) (H' : Hp) (d : D), W.g = g → RE K w W H σ ρ → (∀ p ∈ γ, p ∈ ρ.h) → ds[i]? = some d → J.yld i H x H' → Same H H' ∧ Rep K w W.g H' (Fb W.O σ ρ.s) d x
  stop : ∀ (W : Fm) (H : Hp) (σ : L2.St) (ρ : En) (i : Nat), W.g = g → RE K w W H σ ρ → (∀ p ∈ γ, p ∈ ρ.h) → ds.length = i → J.stop i H

def SI (X : Cx) (W : Fm) (ρ : En) (tg iter : Expr) (K : Nat → List D → Prop) : Prop :=
  ∃ wi, PI X tg iter wi ∧ ∀ (σ : L2.St) (H : Hp) (R : It → Hp → Prop), RE X.K X.w W H σ ρ →
    (∀ J H1 n ds γ, SameG W.g H H1 → RE X.K X.w W H1 σ ⟨n, ρ.s, γ ++ ρ.h⟩ → ItOk X.K X.w W.g J γ ds → K n ds → R J H1) → wi σ H R

section
variable {X : Cx} {W : Fm} {ρ : En} {K : Nat → List D → Prop} {e tg : Expr}
theorem itOk_list {K : PySem.W.Frag} {w : World} {g : G} {a : Addr} {ds : List D} : ItOk K w g (Itl K a) [(.lst ds, .ref a)] ds where
  go := fun W H σ ρ i hg r h hi => by
    obtain ⟨a', us, e1, _, q, rl⟩ := r.gh _ (h _ List.mem_cons_self)
    cases e1
    obtain ⟨u, hu, _⟩ := rl.get (List.getElem?_eq_getElem hi)
    exact ⟨us, u, .of q, hu⟩
  yld := fun W H σ ρ i x H' d hg r h hi y => by
    obtain ⟨a', us, e1, _, q, rl⟩ := r.gh _ (h _ List.mem_cons_self)
    cases e1
    obtain ⟨u, hu, hr⟩ := rl.get hi
    obtain ⟨e2, y⟩ := y
    subst e2
    have e3 : x = u := Option.some.inj ((y us (.of q)).symm.trans hu)
    subst e3
    exact ⟨.refl _, hr⟩
  stop := fun W H σ ρ i hg r h hi => by
    have hi := Nat.le_of_eq hi
    obtain ⟨a', us, e1, _, q, rl⟩ := r.gh _ (h _ List.mem_cons_self)
    cases e1
    exact ⟨us, .of q, by rw [← rl.length]; exact hi⟩
theorem itOk_tup {K : PySem.W.Frag} {w : World} {g : G} {a : Addr} {ds : List D} : ItOk K w g (Itt K a) [(.tup ds, .ref a)] ds where
  go := fun W H σ ρ i hg r h hi => by
    obtain ⟨a', us, e1, q, rl⟩ := r.gh _ (h _ List.mem_cons_self)
    cases e1
    obtain ⟨u, hu, _⟩ := rl.get (List.getElem?_eq_getElem hi)
    exact ⟨us, u, q, hu⟩
  yld := fun W H σ ρ i x H' d hg r h hi y => by
    obtain ⟨a', us, e1, q, rl⟩ := r.gh _ (h _ List.mem_cons_self)
    cases e1
    obtain ⟨u, hu, hr⟩ := rl.get hi
    obtain ⟨e2, y⟩ := y
    subst e2
    have e3 : x = u := Option.some.inj ((y us q).symm.trans hu)
    subst e3
    exact ⟨.refl _, hr⟩
  stop := fun W H σ ρ i hg r h hi => by
    have hi := Nat.le_of_eq hi
    obtain ⟨a', us, e1, q, rl⟩ := r.gh _ (h _ List.mem_cons_self)
    cases e1
    exact ⟨us, q, by rw [← rl.length]; exact hi⟩
theorem itOk_range {K : PySem.W.Frag} {w : World} {g : G} {lo : Int} {c : Nat} : ItOk K w g (Itr lo c) [] (rngD lo c) where
  go := fun W H σ ρ i hg r h hi => by
    rw [rngD_length] at hi
    exact hi
  yld := fun W H σ ρ i x H' d hg r h hi y => by
    obtain ⟨e1, e2⟩ := y
    subst e1 e2
    have hl : i < (rngD lo c).length := (List.getElem?_eq_some_iff.mp hi).1
    rw [rngD_length] at hl
    rw [rngD_get hl] at hi
    cases hi
    exact ⟨.refl _, rfl⟩
  stop := fun W H σ ρ i hg r h hi => by
    have hi := Nat.le_of_eq hi
    rw [rngD_length] at hi
    exact hi
theorem si_list (h : SE X W ρ e fun n d => ∃ ds, d = .lst ds ∧ K n ds) : SI X W ρ tg e K :=
  ⟨_, pi_list (pe_X (W := W) (ρ := ρ)), fun σ H R r f => ⟨ρ.n, r, _, h, fun v H1 n d s1 r1 p1 ⟨ds, e, k⟩ => by
    subst e
    obtain ⟨a, vs, e, nf, q, rl⟩ := id p1
    subst e
    exact ⟨a, rfl, ⟨vs, .of q⟩, f _ H1 n ds [(.lst ds, .ref a)] s1 (r1.hold p1) itOk_list k⟩⟩⟩
theorem si_tup (h : SE X W ρ e fun n d => ∃ ds, d = .tup ds ∧ K n ds) : SI X W ρ tg e K :=
  ⟨_, pi_tup (pe_X (W := W) (ρ := ρ)), fun σ H R r f => ⟨ρ.n, r, _, h, fun v H1 n d s1 r1 p1 ⟨ds, e, k⟩ => by
    subst e
    obtain ⟨a, vs, e, q, rl⟩ := id p1
    subst e
    exact ⟨a, rfl, ⟨vs, q⟩, f _ H1 n ds [(.tup ds, .ref a)] s1 (r1.hold p1) itOk_tup k⟩⟩⟩
theorem si_range1 {a : Expr} {q1 q2 : Pos} (hm : X.mg "range" = none) (h : SA X W ρ [a] fun n ds => ∃ i : Int, ds = [.int i] ∧ (-1000000 ≤ i ∧ i ≤ 1000000) ∧ K n (rngD 0 i.toNat)) (hg : Gl X "range" := by rfl) (hst : starEach [a] X.env = [(false, eval a X.env)] := by rfl) :
    SI X W ρ tg (.Call (.Name "range" q1) [a] [] q2) K :=
  ⟨_, pi_range1 hg hm (pa_X (W := W) (ρ := ρ)) hst, fun σ H R r f => ⟨ρ.n, r, _, h, fun vs H1 n ds s1 r1 p1 ⟨i, e, hi, k⟩ => by
    subst e
    obtain ⟨v, r', e1, e2, e3⟩ := p1
    have e2' : v = .int i := e2
    have e3' : r' = [] := e3
    subst e1 e2' e3'
    exact ⟨i, rfl, by omega, by omega, f _ H1 n _ [] s1 r1 itOk_range k⟩⟩⟩
theorem si_range2 {a b : Expr} {q1 q2 : Pos} (hm : X.mg "range" = none) (h : SA X W ρ [a, b] fun n ds => ∃ i j : Int, ds = [.int i, .int j] ∧ (-1000000 ≤ i ∧ i ≤ 1000000 ∧ -1000000 ≤ j ∧ j ≤ 1000000) ∧ K n (rngD i (j - i).toNat)) (hg : Gl X "range" := by rfl)
    (hst : starEach [a, b] X.env = [(false, eval a X.env), (false, eval b X.env)] := by rfl) (hst2 : starEach [b] X.env = [(false, eval b X.env)] := by rfl) : SI X W ρ tg (.Call (.Name "range" q1) [a, b] [] q2) K :=
  ⟨_, pi_range2 hg hm (pa_X (W := W) (ρ := ρ)) hst hst2, fun σ H R r f => ⟨ρ.n, r, _, h, fun vs H1 n ds s1 r1 p1 ⟨i, j, e, hi, k⟩ => by
    subst e
    obtain ⟨v, r', e1, e2, v2, r2, e3, e4, e5⟩ := p1
    have e2' : v = .int i := e2
    have e4' : v2 = .int j := e4
    have e5' : r2 = [] := e5
    subst e1 e2' e3 e4' e5'
    exact ⟨i, j, rfl, by omega, f _ H1 n _ [] s1 r1 itOk_range k⟩⟩⟩
end

/-! ### for -/
section
variable {X : Cx} {W : Fm} {ρ : En} {R : RD} {tg iter : Expr} {body : List Stmt} {pos : Pos}
theorem sn_for (hp : PassesOwn (model X.prog X.w) X.A X.env X.xe) (hc : X.calm = true)
    (h : SI X W ρ tg iter fun n ds => ∃ J : Nat → Nat → List Sl → Prop, J 0 n ρ.s ∧ Turns X W R tg body ρ.h ds J ∧ ∀ m s, J ds.length m s → R.nx ⟨m, s, ρ.h⟩)
    (hs : ∀ x, foldedSetIterable iter X.env x = pure x := by intro _; rfl) : SN X W ρ (.For tg iter body [] pos) R := by
  obtain ⟨wi, pi, h⟩ := h
  refine SN.of (ps_for hp hc pi (pg_X (W := W)) (pss_X (W := W)) hs) fun σ H D r f => h σ H _ r fun Jt H1 n ds γ s1 r1 ok ⟨J, j0, turn, fin⟩ => ?_
  refine ⟨fun k t σ' H' => t = ds.length - k ∧ k ≤ ds.length ∧ ∃ m s, RE X.K X.w W H' σ' ⟨m, s, γ ++ ρ.h⟩ ∧ J k m s, ⟨ds.length, by omega, Nat.zero_le _, n, ρ.s, r1, j0⟩, ?_⟩
  rintro k t σ' H' ⟨rfl, hk, m, s, r2, j⟩
  have gin : ∀ p ∈ γ, p ∈ γ ++ ρ.h := fun p hp => List.mem_append_left _ hp
  by_cases hlt : k < ds.length
  · refine .inr ⟨ok.go W H' σ' _ k rfl r2 gin hlt, fun σ2 H2 => ∃ m s, RE X.K X.w W H2 σ2 ⟨m, s, γ ++ ρ.h⟩ ∧ J (k + 1) m s, fun σ2 H2 h2 => ⟨ds.length - (k + 1), by omega, rfl, hlt, h2⟩, fun x H2 hy => ?_⟩
    obtain ⟨sm, hr⟩ := ok.yld W H' σ' _ k x H2 _ rfl r2 gin (List.getElem?_eq_getElem hlt) hy
    refine ⟨_, _, r2.stay sm, hr, _, turn k _ m s _ (List.getElem?_eq_getElem hlt) j, fun σ3 H3 ρ3 r3 h3 => ⟨ρ3, r3, _, h3, ?_⟩⟩
    refine ⟨fun σ4 H4 ρ4 r4 ⟨e4, j4⟩ => ⟨ρ4.n, ρ4.s, e4 ▸ r4, j4⟩, f.rt, fun σ4 H4 ρ4 r4 ⟨e4, j4⟩ => f.nx σ4 H4 _ (r4.unhold fun p hp => by rw [e4]; exact List.mem_append_right _ hp) j4, fun σ4 H4 ρ4 r4 ⟨e4, j4⟩ => ⟨ρ4.n, ρ4.s, e4 ▸ r4, j4⟩⟩
  · have ek : k = ds.length := by omega
    subst ek
    exact .inl ⟨ok.stop W H' σ' _ _ rfl r2 gin rfl, f.nx σ' H' ⟨m, s, ρ.h⟩ (r2.unhold fun p hp => List.mem_append_right _ hp) (fin m s j)⟩
end

/-! ### comprehensions -/
/-- what is one's own is lent to the block; the block's own name is open -/
def Sl.lend : Sl → Sl
  | .ow d => .br d
  | l => l
def lendS (s : List Sl) : List Sl := s.map Sl.lend
def ownsOf (σ : L2.St) (s : List Sl) : List Addr := (List.range s.length).filterMap fun i => match s[i]?, σ[i]? with
  | some (Sl.ow _), some (some (V.ref a)) => some a
  | _, _ => none
theorem mem_owns {σ : L2.St} {s : List Sl} {a : Addr} : a ∈ ownsOf σ s ↔ ∃ (i : Nat) (d : D), s[i]? = some (.ow d) ∧ σ[i]? = some (some (.ref a)) := by
  unfold ownsOf
  rw [List.mem_filterMap]
  constructor
  · rintro ⟨i, _, h⟩
    split at h
    · rename_i d a' e1 e2
      cases h
      exact ⟨i, d, e1, e2⟩
    · cases h
  · rintro ⟨i, d, e1, e2⟩
    refine ⟨i, List.mem_range.mpr (List.getElem?_eq_some_iff.mp e1).1, ?_⟩
    rw [e1, e2]
theorem fb_iff {O : List Addr} {σ : L2.St} {s : List Sl} {a : Addr} : Fb O σ s a ↔ a ∈ O ++ ownsOf σ s := by
  rw [List.mem_append, mem_owns]
  exact Iff.rfl
/-- the frame of a block: what is the def's own, and p, is nobody's -/
def Fm.blk (W : Fm) (σ : L2.St) (s : List Sl) (p : Addr) : Fm := ⟨W.g, p :: (W.O ++ ownsOf σ s), W.B⟩
section
variable {K : PySem.W.Frag} {w : World} {W : Fm} {H : Hp} {σ : L2.St} {ρ : En}
theorem lend_get {s : List Sl} {i : Nat} {l : Sl} (h : (lendS s)[i]? = some l) : ∃ l0, s[i]? = some l0 ∧ l = l0.lend := by
  unfold lendS at h
  rw [List.getElem?_map] at h
  cases e : s[i]? with
  | none => rw [e] at h; cases h
  | some l0 => rw [e] at h; exact ⟨l0, rfl, (Option.some.inj h).symm⟩
theorem lend_no {s : List Sl} {i : Nat} {d : D} (h : (lendS s)[i]? = some (.ow d)) : False := by
  obtain ⟨l0, _, e⟩ := lend_get h
  cases l0 <;> cases e
/-- into a block; its list stands at p -/
theorem RE.block (r : RE K w W H σ ρ) {p : Addr} {o : HO} (hp : H p = none) : RE K w (W.blk σ ρ.s p) (upd H p o) σ ⟨ρ.n, lendS ρ.s, ρ.h⟩ := by
  have sm : Same H (upd H p o) := same_new hp
  have hf : ∀ b u, ¬ Fb W.O σ ρ.s b → H b = some u → ¬ Fb (W.blk σ ρ.s p).O σ (lendS ρ.s) b := fun b u n e z => by
    rcases z with z | ⟨i, d, e1, _⟩
    · rcases List.mem_cons.mp z with z | z
      · subst z
        rw [hp] at e
        cases e
      · exact n (fb_iff.mpr z)
    · exact lend_no e1
  have up : ∀ {d : D} {v : V}, Rep K w W.g H (Fb W.O σ ρ.s) d v → Rep K w W.g (upd H p o) (Fb (W.blk σ ρ.s p).O σ (lendS ρ.s)) d v := fun h => r.rep (.of sm) hf (fun _ => fb_O) h
  have upL : ∀ {d : List D} {v : List V}, RepL K w W.g H (Fb W.O σ ρ.s) d v → RepL K w W.g (upd H p o) (Fb (W.blk σ ρ.s p).O σ (lendS ρ.s)) d v := fun h => r.repL (.of sm) hf (fun _ => fb_O) h
  refine ⟨by show (lendS ρ.s).length = _; unfold lendS; rw [List.length_map]; exact r.len, fun a u e n => sm a u (r.same a u e n), fun q e => ?_, fun a h => ?_, fun q hq => up (r.gh q hq), fun i l e => ?_, fun i j d d' a e1 _ _ _ => (lend_no e1).elim⟩
  · obtain ⟨h1, h2, h2', h3⟩ := r.src q e
    exact ⟨List.mem_cons_of_mem _ (List.mem_append_left _ h1), List.mem_cons_of_mem _ (List.mem_append_left _ h2), ⟨List.mem_cons_of_mem _ (List.mem_append_left _ h2'.1), fun t ht => List.mem_cons_of_mem _ (List.mem_append_left _ (h2'.2 t ht))⟩, h3.same sm⟩
  · rcases List.mem_cons.mp h with z | z
    · subst z
      exact ⟨o, upd_same⟩
    · rcases List.mem_append.mp z with z | z
      · obtain ⟨u, e⟩ := r.tr a z
        exact ⟨u, sm a u e⟩
      · obtain ⟨i, d, e1, e2⟩ := mem_owns.mp z
        obtain ⟨a', e3, _, _, c⟩ := r.slot i _ e1
        rw [e2] at e3
        cases e3
        obtain ⟨u, e⟩ := c.there
        exact ⟨u, sm a u e⟩
  · obtain ⟨l0, e0, el⟩ := lend_get e
    have h := r.slot i l0 e0
    cases l0 with
    | un => subst el; trivial
    | va d =>
      subst el
      obtain ⟨v, e1, h⟩ := h
      exact ⟨v, e1, up h⟩
    | ow d =>
      subst el
      obtain ⟨a, e1, n1, n2, h⟩ := h
      exact ⟨a, e1, List.mem_cons_of_mem _ (List.mem_append_right _ (mem_owns.mpr ⟨i, d, e0, e1⟩)), r.notG n1, Con.mono upL (fun u e => sm a u e) h⟩
    | br d =>
      subst el
      obtain ⟨a, e1, n1, n2, h⟩ := h
      exact ⟨a, e1, List.mem_cons_of_mem _ (List.mem_append_left _ n1), n2, Con.mono upL (fun u e => sm a u e) h⟩
/-- back from a block: all but p is as it was -/
theorem RE.unblock (r : RE K w W H σ ρ) {p : Addr} {H' : Hp} {σ' : L2.St} {ρ' : En} (hp : H p = none) (r' : RE K w (W.blk σ ρ.s p) H' σ' ρ') (s : SameG W.g H H') : RE K w W H' σ (ρ.to ρ'.n) := by
  refine r.step s fun q e => ?_
  exact (r'.src q e).2.2.2
/-- a new thing stands at p: it is nobody's -/
theorem RE.addAt (r : RE K w W H σ ρ) {p : Addr} {o : HO} {H' : Hp} {n : Nat} (hp : H p = none) (s : SameG W.g H H') (hp' : H' p = some o) (hs : ∀ q, W.g = some q → SrcOk K H' q n) : RE K w (W.add p) H' σ (ρ.to n) := by
  have r1 := r.step (n := n) s hs
  have hf : ∀ b u, ¬ Fb W.O σ ρ.s b → H b = some u → ¬ Fb (p :: W.O) σ ρ.s b := fun b u n e z => by
    rcases z with z | z
    · rcases List.mem_cons.mp z with z | z
      · subst z
        rw [hp] at e
        cases e
      · exact n (.inl z)
    · exact n (.inr z)
  have up : ∀ {d : D} {v : V}, Rep K w W.g H (Fb W.O σ ρ.s) d v → Rep K w W.g H' (Fb (p :: W.O) σ ρ.s) d v := fun h => r.rep s hf (fun _ => fb_O) h
  have upL : ∀ {d : List D} {v : List V}, RepL K w W.g H (Fb W.O σ ρ.s) d v → RepL K w W.g H' (Fb (p :: W.O) σ ρ.s) d v := fun h => r.repL s hf (fun _ => fb_O) h
  refine ⟨r.len, r1.same, fun q e => ?_, fun a h => ?_, fun q hq => up (r.gh q hq), fun i l e => ?_, r.apart⟩
  · obtain ⟨h1, h2, h2', h3⟩ := r1.src q e
    exact ⟨List.mem_cons_of_mem _ h1, List.mem_cons_of_mem _ h2, ⟨List.mem_cons_of_mem _ h2'.1, fun t ht => List.mem_cons_of_mem _ (h2'.2 t ht)⟩, h3⟩
  · rcases List.mem_cons.mp h with z | z
    · subst z
      exact ⟨o, hp'⟩
    · exact r1.tr a z
  · have h := r.slot i l e
    cases l with
    | un => trivial
    | va d =>
      obtain ⟨v, e1, h⟩ := h
      exact ⟨v, e1, up h⟩
    | ow d =>
      obtain ⟨a, e1, n1, n2, h⟩ := h
      refine ⟨a, e1, fun z => ?_, n2, Con.mono upL (fun u e => s a u e (r.notG n1)) h⟩
      rcases List.mem_cons.mp z with z | z
      · obtain ⟨u, e⟩ := h.there
        rw [z, hp] at e
        cases e
      · exact n1 z
    | br d =>
      obtain ⟨a, e1, n1, n2, h⟩ := h
      exact ⟨a, e1, List.mem_cons_of_mem _ n1, n2, Con.mono upL (fun u e => s a u e n2) h⟩
/-- a list that is nobody's is written -/
theorem RE.writeO (r : RE K w W H σ ρ) {p : Addr} {xs : List V} {o : HO} (hO : p ∈ W.O) (hG : NotG W.g p) (hC : ∀ q, W.g = some q → p ≠ q.2.2.1) (hB : W.B p = none) (hp : H p = some (.lst xs)) (hbr : ∀ (i : Nat) (d : D), ρ.s[i]? = some (.br d) → σ[i]? ≠ some (some (.ref p))) : RE K w W (upd H p o) σ ρ := by
  have kp : ∀ b u, b ≠ p → H b = some u → (upd H p o) b = some u := fun b u n e => by rw [upd_ne n]; exact e
  have hk : ∀ b u, ¬ Fb W.O σ ρ.s b → H b = some u → (upd H p o) b = some u ∧ ¬ Fb W.O σ ρ.s b := fun b u n e => ⟨kp b u (fun z => n (z ▸ .inl hO)) e, n⟩
  have ht : ∀ b ys, H b = some (HO.tup ys) → (upd H p o) b = some (HO.tup ys) := fun b ys e => kp b _ (fun z => by rw [z, hp] at e; cases e) e
  have hz : ∀ b ob u, H b = some (HO.frz ob u) → (upd H p o) b = some (HO.frz ob u) := fun b ob u e => kp b _ (fun z => by rw [z, hp] at e; cases e) e
  have up : ∀ {d1 : D} {v : V}, Rep K w W.g H (Fb W.O σ ρ.s) d1 v → Rep K w W.g (upd H p o) (Fb W.O σ ρ.s) d1 v := fun h => Rep.mono ht hz hk _ _ h
  have upL : ∀ {d1 : List D} {v : List V}, RepL K w W.g H (Fb W.O σ ρ.s) d1 v → RepL K w W.g (upd H p o) (Fb W.O σ ρ.s) d1 v := fun h => RepL.mono ht hz hk _ _ h
  refine ⟨r.len, fun b u e n => kp b u (fun z => by rw [z, hB] at e; cases e) (r.same b u e n), fun q e => ?_, fun b h => ?_, fun q hq => up (r.gh q hq), fun i l e => ?_, r.apart⟩
  · obtain ⟨h1, h2, h2', ⟨L, C, q', t, h3, h4, h5, h6⟩, tb⟩ := r.src q e
    have ng := hG q e
    exact ⟨h1, h2, h2', ⟨L, C, q', t, kp _ _ ng.1.symm h3, kp _ _ ng.2.1.symm h4, kp _ _ (hC q e).symm h5, h6⟩, tabs_upd tb hp (fun _ z => by cases z) fun _ => lst_code⟩
  · by_cases hb : b = p
    · subst hb
      exact ⟨o, upd_same⟩
    · obtain ⟨u, e⟩ := r.tr b h
      exact ⟨u, kp b u hb e⟩
  · have h := r.slot i l e
    cases l with
    | un => trivial
    | va d1 =>
      obtain ⟨v, e1, h⟩ := h
      exact ⟨v, e1, up h⟩
    | ow d1 =>
      obtain ⟨b, e1, m1, m2, h⟩ := h
      exact ⟨b, e1, m1, m2, Con.mono upL (fun u e => kp b u (fun z => m1 (z ▸ hO)) e) h⟩
    | br d1 =>
      obtain ⟨b, e1, m1, m2, h⟩ := h
      exact ⟨b, e1, m1, m2, Con.mono upL (fun u e' => kp b u (fun z => hbr i d1 e (z ▸ e1)) e') h⟩
end

section
variable {X : Cx} {W : Fm} {ρ : En} {K : Nat → D → Prop} {elt iter c : Expr} {scope : Scope} {pos p1 : Pos}
/-- the block that a comprehension runs in -/
abbrev Blk (X : Cx) (scope : Scope) (s : Shared) (H : Hp) (C : Addr) (cl : List (Str × Addr)) (fp : List Addr) : Cx := X.blk s H scope (compEnvC scope cl C X.env) fp
def tBlk (X : Cx) (scope : Scope) (e : Expr) : TE := fun σ H Q => ∃ (W' : Fm) (ρ' : En), RE X.K X.w W' H σ ρ' ∧ ∃ K', (∀ s Hb C cl fp, SE (Blk X scope s Hb C cl fp) W' ρ' e K') ∧
  ∀ v H' n d, SameG W'.g H H' → RE X.K X.w W' H' σ (ρ'.to n) → Rep X.K X.w W'.g H' (Fb W'.O σ ρ'.s) d v → K' n d → Q v H'
theorem pe_blk {e : Expr} (s : Shared) (Hb : Hp) (C : Addr) (cl : List (Str × Addr)) (fp : List Addr) : PE (Blk X scope s Hb C cl fp) e (tBlk X scope e) := by
  refine ⟨fun pins s σ H Q I h => ?_⟩
  obtain ⟨W', ρ', r, K', hS, hQ⟩ := h
  exact thn (hS _ _ _ _ _ pins s σ H I r) fun u s' ⟨v, H', m, d, I', rv, sm, r', p, k⟩ => ⟨v, H', I', rv, hQ v H' m d sm r' p k⟩
def tBlkT (X : Cx) (scope : Scope) (e : Expr) : TT := fun σ H Q => ∃ (W' : Fm) (ρ' : En), RE X.K X.w W' H σ ρ' ∧ ∃ K', (∀ s Hb C cl fp, STt (Blk X scope s Hb C cl fp) W' ρ' e K') ∧
  ∀ b H' n, SameG W'.g H H' → RE X.K X.w W' H' σ (ρ'.to n) → K' n b → Q b H'
theorem pt_blk {e : Expr} (s : Shared) (Hb : Hp) (C : Addr) (cl : List (Str × Addr)) (fp : List Addr) : PT (Blk X scope s Hb C cl fp) e (tBlkT X scope e) := by
  refine ⟨fun pins s σ H Q I h => ?_⟩
  obtain ⟨W', ρ', r, K', hS, hQ⟩ := h
  exact thn (hS _ _ _ _ _ pins s σ H I r) fun b s' ⟨H', m, I', sm, r', k⟩ => ⟨H', I', hQ b H' m sm r' k⟩
/-- a slot forgotten and emptied -/
theorem RE.wipe1 {K : PySem.W.Frag} {w : World} {H : Hp} {σ : L2.St} (r : RE K w W H σ ρ) (i : Nat) : RE K w W H (σ.set i none) (ρ.set i .un) := by
  refine r.re (by rw [List.length_set, List.length_set]; exact r.len) (fun b z => ?_) fun j l e => ?_
  · rcases z with z | ⟨j, d', e1, e2⟩
    · exact .inl z
    · by_cases hj : j = i
      · subst hj
        cases (get_set_eq e1).1
      · rw [get_set_ne hj] at e1 e2
        exact .inr ⟨j, d', e1, e2⟩
  · by_cases hj : j = i
    · subst hj
      exact .inl (get_set_eq e).1
    · rw [get_set_ne hj] at e
      exact .inr (.inl ⟨e, get_set_ne hj⟩)
/-- the turns of a comprehension of one name, without and with an 'if' -/
def CompT (X : Cx) (W : Fm) (ρ : En) (scope : Scope) (i : Nat) (elt : Expr) (ds : List D) (J : Nat → Nat → List D → Prop) : Prop :=
  ∀ (k : Nat) (d : D) (m : Nat) (acc : List D) (γ : List (D × V)) (W' : Fm), ds[k]? = some d → J k m acc → W'.g = W.g → ∀ s Hb C cl fp,
    SE (Blk X scope s Hb C cl fp) W' ⟨m, (lendS ρ.s).set i (.va d), γ⟩ elt fun n y => J (k + 1) n (acc ++ [y])
def CompI (X : Cx) (W : Fm) (ρ : En) (scope : Scope) (i : Nat) (elt c : Expr) (ds : List D) (J : Nat → Nat → List D → Prop) : Prop :=
  ∀ (k : Nat) (d : D) (m : Nat) (acc : List D) (γ : List (D × V)) (W' : Fm), ds[k]? = some d → J k m acc → W'.g = W.g → ∀ s Hb C cl fp,
    STt (Blk X scope s Hb C cl fp) W' ⟨m, (lendS ρ.s).set i (.va d), γ⟩ c fun n b => if b = true then (∀ s Hb C cl fp, SE (Blk X scope s Hb C cl fp) W' ⟨n, (lendS ρ.s).set i (.va d), γ⟩ elt fun n y => J (k + 1) n (acc ++ [y])) else J (k + 1) n acc
end
end Sk
set_option maxHeartbeats 4000000
/-! S7: comprehensions. -/
namespace Sk
open PySem PySem.Spec PyProof.Rows L2
section
variable {X : Cx} {W : Fm} {ρ : En} {K : Nat → D → Prop} {elt iter c : Expr} {scope : Scope} {pos p1 : Pos}
/-- what a comprehension's block has between two turns -/
def LcInv (X : Cx) (W : Fm) (ρ : En) (σ : L2.St) (H : Hp) (i : Nat) (p : Addr) (γ : List (D × V)) (J : Nat → Nat → List D → Prop) (k : Nat) (H' : Hp) : Prop :=
  ∃ m acc vs, RE X.K X.w (W.blk σ ρ.s p) H' (σ.set i none) ⟨m, (lendS ρ.s).set i .un, γ⟩ ∧ SameG W.g H H' ∧ H' p = some (.lst vs) ∧
    RepL X.K X.w W.g H' (Fb (W.blk σ ρ.s p).O (σ.set i none) ((lendS ρ.s).set i .un)) acc vs ∧ acc.length ≤ k ∧ J k m acc
theorem blk_fb {σ : L2.St} {s s' : List Sl} {p b : Addr} {W : Fm} {σ' : L2.St} (hs : ∀ (j : Nat) (d : D), s'[j]? ≠ some (.ow d)) : Fb (W.blk σ s p).O σ' s' b ↔ b ∈ (W.blk σ s p).O := by
  constructor
  · rintro (z | ⟨j, d, e, _⟩)
    · exact z
    · exact absurd e (hs j d)
  · exact .inl
theorem lend_set_no {s : List Sl} {i j : Nat} {l : Sl} {d : D} (hl : ∀ d, l ≠ .ow d) : ((lendS s).set i l)[j]? ≠ some (.ow d) := fun h => by
  by_cases hj : j = i
  · subst hj
    exact hl d (get_set_eq h).1.symm
  · rw [get_set_ne hj] at h
    exact lend_no h
/-- the reading of a comprehension by its turns -/
theorem lc_read {i : Nat} {tt : TT} {te : TE} {σ : L2.St} {H H1 : Hp} {Q : VK} {n : Nat} {ds : List D} {γ : List (D × V)} {It0 : It} {J : Nat → Nat → List D → Prop} (r0 : RE X.K X.w W H σ ρ) (f : FolF X W ρ σ H K Q) (s1 : SameG W.g H H1) (r1 : RE X.K X.w W H1 σ ⟨n, ρ.s, γ ++ ρ.h⟩)
    (ok : ItOk X.K X.w W.g It0 γ ds) (j0 : J 0 n []) (fin : ∀ m acc, J ds.length m acc → K m (.lst acc)) (hz : ds.length ≤ 1000000)
    (turn : ∀ k d m acc p H' (QT : V → Hp → Prop) (QF : Hp → Prop), ds[k]? = some d → J k m acc → H1 p = none → ∀ x, RE X.K X.w (W.blk σ ρ.s p) H' (σ.set i (some x)) ⟨m, (lendS ρ.s).set i (.va d), γ ++ ρ.h⟩ →
      (∀ y H4 m' dy, SameG W.g H' H4 → RE X.K X.w (W.blk σ ρ.s p) H4 (σ.set i (some x)) ⟨m', (lendS ρ.s).set i (.va d), γ ++ ρ.h⟩ → Rep X.K X.w W.g H4 (Fb (W.blk σ ρ.s p).O (σ.set i (some x)) ((lendS ρ.s).set i (.va d))) dy y → J (k + 1) m' (acc ++ [dy]) → QT y H4) →
      (∀ H4 m', SameG W.g H' H4 → RE X.K X.w (W.blk σ ρ.s p) H4 (σ.set i (some x)) ⟨m', (lendS ρ.s).set i (.va d), γ ++ ρ.h⟩ → J (k + 1) m' acc → QF H4) →
      tt (σ.set i (some x)) H' fun b H3 => if b = true then te (σ.set i (some x)) H3 fun y H4 => QT y H4 else QF H3) (p : Addr) (hp : H1 p = none) :
    ∃ W' : Nat → Nat → Hp → Prop, (∃ m, W' 0 m (upd H1 p (.lst []))) ∧ ∀ k m H, W' k m H →
      (It0.stop k H ∧ Q (.ref p) H) ∨ (It0.go k H ∧ ∃ Nx : Hp → Prop, (∀ H', Nx H' → ∃ m', m' < m ∧ W' (k + 1) m' H') ∧ ∀ x H', It0.yld k H x H' → gName i x (wipe σ [i]) H' fun σ2 H2 => wipe σ2 [i] = wipe σ [i] ∧ tt σ2 H2 fun b H3 =>
        if b = true then te σ2 H3 fun y H4 => ∃ acc, H4 p = some (.lst acc) ∧ acc.length < sizeLine ∧ Nx (upd H4 p (.lst (acc ++ [y]))) else Nx H3) := by
  have hp0 : H p = none := by
    have z := r0.free (n := n) (r1.unhold (γ := ρ.h) fun q hq => List.mem_append_right _ hq) s1 p hp
    exact z
  have hO : p ∉ W.O := (r0.fresh0 hp0).2
  have hB : W.B p = none := (r0.fresh0 hp0).1
  have hG : NotG W.g p := r0.notG hO
  have hC : ∀ q, W.g = some q → p ≠ q.2.2.1 := fun q e z => hO (z ▸ (r0.src q e).2.2.1.1)
  have wp : ∀ x : Option V, wipe (σ.set i x) [i] = σ.set i none := fun x => by
    show ((σ.set i x).set i none) = _
    rw [List.set_set]
  have gin : ∀ q ∈ γ, q ∈ γ ++ ρ.h := fun q hq => List.mem_append_left _ hq
  refine ⟨fun k t H' => t = ds.length - k ∧ k ≤ ds.length ∧ LcInv X W ρ σ H i p (γ ++ ρ.h) J k H', ⟨ds.length, by omega, Nat.zero_le _, n, [], [], ?_, ?_, upd_same, rfl, Nat.le_refl _, j0⟩, ?_⟩
  · exact (r1.block hp).wipe1 i
  · exact s1.trans (.of (same_new hp))
  rintro k t H' ⟨rfl, hk, m, acc, vs, r2, s2, q2, l2, hl, j⟩
  by_cases hlt : k < ds.length
  · refine .inr ⟨ok.go (W.blk σ ρ.s p) H' _ _ k rfl r2 gin hlt, fun H2 => LcInv X W ρ σ H i p (γ ++ ρ.h) J (k + 1) H2, fun H2 h2 => ⟨ds.length - (k + 1), by omega, rfl, hlt, h2⟩, fun x H2 hy => ?_⟩
    obtain ⟨sm, hr⟩ := ok.yld (W.blk σ ρ.s p) H' _ _ k x H2 _ rfl r2 gin (List.getElem?_eq_getElem hlt) hy
    have r3 := r2.stay sm
    have r4 := r3.setVa i hr
    have e5 : (σ.set i none).set i (some x) = σ.set i (some x) := by rw [List.set_set]
    have e6 : ((lendS ρ.s).set i Sl.un).set i (.va ds[k]) = (lendS ρ.s).set i (.va ds[k]) := by rw [List.set_set]
    have r5 : RE X.K X.w (W.blk σ ρ.s p) H2 (σ.set i (some x)) ⟨m, (lendS ρ.s).set i (.va ds[k]), γ ++ ρ.h⟩ := by
      rw [← e5, ← e6]
      exact r4
    show wipe ((wipe σ [i]).set i (some x)) [i] = wipe σ [i] ∧ tt ((wipe σ [i]).set i (some x)) H2 _
    have e7 : (wipe σ [i]).set i (some x) = σ.set i (some x) := e5
    rw [e7]
    refine ⟨(wp (some x)).trans rfl, ?_⟩
    have back : ∀ {H4 : Hp} {m' : Nat}, SameG W.g H2 H4 → RE X.K X.w (W.blk σ ρ.s p) H4 (σ.set i (some x)) ⟨m', (lendS ρ.s).set i (.va ds[k]), γ ++ ρ.h⟩ →
        RE X.K X.w (W.blk σ ρ.s p) H4 (σ.set i none) ⟨m', (lendS ρ.s).set i .un, γ ++ ρ.h⟩ := fun {H4 m'} s4 r6 => by
      have r7 := r6.wipe1 i
      have e8 : (σ.set i (some x)).set i none = σ.set i none := by rw [List.set_set]
      have e9 : ((lendS ρ.s).set i (.va ds[k])).set i Sl.un = (lendS ρ.s).set i .un := by rw [List.set_set]
      rw [e8] at r7
      have r8 : RE X.K X.w (W.blk σ ρ.s p) H4 (σ.set i none) ⟨m', ((lendS ρ.s).set i (.va ds[k])).set i .un, γ ++ ρ.h⟩ := r7
      rw [e9] at r8
      exact r8
    have q3 : H2 p = some (.lst vs) := sm _ _ q2
    have l3 := r2.repL' (.of sm) l2
    have fb1 : ∀ {σ' : L2.St} {b : Addr}, Fb (W.blk σ ρ.s p).O σ' ((lendS ρ.s).set i .un) b ↔ b ∈ (W.blk σ ρ.s p).O := fun {σ' b} => blk_fb fun _ _ => lend_set_no fun _ z => by cases z
    have fb2 : ∀ {σ' : L2.St} {b : Addr}, Fb (W.blk σ ρ.s p).O σ' ((lendS ρ.s).set i (.va ds[k])) b ↔ b ∈ (W.blk σ ρ.s p).O := fun {σ' b} => blk_fb fun _ _ => lend_set_no fun _ z => by cases z
    refine turn k _ m acc p H2 (fun y H4 => ∃ acc, H4 p = some (.lst acc) ∧ acc.length < sizeLine ∧ LcInv X W ρ σ H i p (γ ++ ρ.h) J (k + 1) (upd H4 p (.lst (acc ++ [y])))) (fun H3 => LcInv X W ρ σ H i p (γ ++ ρ.h) J (k + 1) H3) (List.getElem?_eq_getElem hlt) j hp x r5 ?_ ?_
    · intro y H4 m' dy s4 r6 hy4 j4
      have q4 : H4 p = some (.lst vs) := s4 _ _ q3 hG
      have r7 := back s4 r6
      have l4 : RepL X.K X.w W.g H4 (Fb (W.blk σ ρ.s p).O (σ.set i none) ((lendS ρ.s).set i .un)) acc vs := r3.repL' s4 l3
      have hy5 : Rep X.K X.w W.g H4 (Fb (W.blk σ ρ.s p).O (σ.set i none) ((lendS ρ.s).set i .un)) dy y := r6.rep (.refl W.g H4) (fun b _ n _ z => n (fb2.mpr (fb1.mp z))) (fun b n z => n (.inl z)) hy4
      have hbr : ∀ (j : Nat) (d : D), ((lendS ρ.s).set i Sl.un)[j]? = some (.br d) → (σ.set i none)[j]? ≠ some (some (.ref p)) := fun j d e1 e2 => by
        by_cases hj : j = i
        · subst hj
          cases (get_set_eq e1).1
        · rw [get_set_ne hj] at e1 e2
          obtain ⟨l0, e3, e4⟩ := lend_get e1
          have h := r0.slot j l0 e3
          cases l0 with
          | un => cases e4
          | va d' => cases e4
          | ow d' =>
            obtain ⟨a, e5, _, _, cc⟩ := h
            rw [e2] at e5
            cases e5
            obtain ⟨u, eu⟩ := cc.there
            rw [hp0] at eu
            cases eu
          | br d' =>
            obtain ⟨a, e5, n5, _⟩ := h
            rw [e2] at e5
            cases e5
            exact hO n5
      have lv : acc.length = vs.length := l4.length
      refine ⟨vs, q4, ?_, m', acc ++ [dy], vs ++ [y], ?_, ?_, upd_same, ?_, ?_, j4⟩
      · have : vs.length ≤ 1000000 := by omega
        exact Nat.lt_of_le_of_lt this (by decide)
      · exact r7.writeO List.mem_cons_self hG hC hB q4 hbr
      · intro a o e na
        have ne : a ≠ p := fun z => by rw [z, hp0] at e; cases e
        rw [upd_ne ne]
        exact (s2.trans ((SameG.of sm).trans s4)) a o e na
      · have kp : ∀ b u, b ≠ p → H4 b = some u → (upd H4 p (.lst (vs ++ [y]))) b = some u := fun b u n e => by rw [upd_ne n]; exact e
        refine RepL.mono (fun b ys e => kp b _ (fun z => by rw [z, q4] at e; cases e) e) (fun b ob u e => kp b _ (fun z => by rw [z, q4] at e; cases e) e) (fun b u n e => ⟨kp b u (fun z => n (fb1.mpr (z ▸ List.mem_cons_self))) e, n⟩) _ _ (l4.append ⟨y, [], rfl, hy5, rfl⟩)
      · rw [List.length_append, List.length_singleton]
        omega
    · intro H4 m' s4 r6 j4
      exact ⟨m', acc, vs, back s4 r6, s2.trans ((SameG.of sm).trans s4), s4 _ _ q3 hG, r3.repL' s4 l3, by omega, j4⟩
  · have ek : k = ds.length := by omega
    subst ek
    refine .inl ⟨ok.stop (W.blk σ ρ.s p) H' _ _ _ rfl r2 gin rfl, ?_⟩
    have src : ∀ q, W.g = some q → SrcOk X.K H' q m := fun q e => (r2.src q e).2.2.2
    refine f p H' m (.lst acc) s2 hp0 (r0.step s2 src) (r0.addAt hp0 s2 q2 src) ⟨vs, q2, ?_⟩ (fin m acc j)
    refine r2.repL (.refl W.g H') (fun b _ nb _ z => nb (.inl ?_)) (fun b n z => n (.inl z)) l2
    rcases fb_iff.mp z |> List.mem_append.mp with z | z
    · rcases List.mem_cons.mp z with z | z
      · subst z
        exact List.mem_cons_self
      · exact List.mem_cons_of_mem _ (List.mem_append_left _ z)
    · exact List.mem_cons_of_mem _ (List.mem_append_right _ z)

/-- a comprehension: as a value, and stored in a name on one line -/
def SL (X : Cx) (W : Fm) (ρ : En) (e : Expr) (K : Nat → D → Prop) : Prop := ∃ t : TE, PE X e t ∧
  (∀ (i : Nat) (y : Str) (py spos : Pos), X.N[i]? = some y → X.env.scope.names.lookup y = some .local → swapsWith e (some (.Name y py)) spos.line X.env = pure true → PS X (.Assign [.Name y py] e spos) (tAsg t (gName i))) ∧
  ∀ σ H Q, RE X.K X.w W H σ ρ → FolF X W ρ σ H K Q → t σ H Q
theorem SL.sf {e : Expr} (h : SL X W ρ e K) : SF X W ρ e K := by
  obtain ⟨t, pe, _, h⟩ := h
  exact SF.of pe h
theorem SL.se {e : Expr} (h : SL X W ρ e K) : SE X W ρ e K := h.sf.se
theorem SL.of {tg : Expr} {ifs : List Expr} {own : List (Str × Nat)} {wi : TI} {g : TG} {tt : TT} {te : TE} (hc : X.calm = true) (hN : X.N.Nodup) (hi : PI X tg iter wi) (ok : BlkOk X.N X.env.scope scope own)
    (hg : ∀ (s : Shared) (H : Hp) (C : Addr) (cl : List (Str × Addr)) (fp : List Addr), PG (X.blk s H scope (compEnvC scope cl C X.env) fp) tg g) (ht : ∀ (s : Shared) (H : Hp) (C : Addr) (cl : List (Str × Addr)) (fp : List Addr), PTs (X.blk s H scope (compEnvC scope cl C X.env) fp) ifs tt)
    (he : ∀ (s : Shared) (H : Hp) (C : Addr) (cl : List (Str × Addr)) (fp : List Addr), PE (X.blk s H scope (compEnvC scope cl C X.env) fp) elt te) (hs : ∀ x, foldedSetIterable iter X.env x = pure x)
    (q : ∀ σ H Q, RE X.K X.w W H σ ρ → FolF X W ρ σ H K Q → tLc wi g tt te (own.map (·.2)) σ H Q) : SL X W ρ (.ListComp elt [⟨tg, iter, ifs, 0⟩] scope pos) K :=
  ⟨_, pe_lc hc hN hi ok hg ht he hs, fun i y py spos hy hyl hsw => ps_setLc hc hN hy hyl hsw hi ok hg ht he hs, q⟩
/-- x = [..] on one line, the list the frame's own; or a value -/
theorem sn_ownLc (i : Nat) {x : Str} {e : Expr} {R : RD} {py spos : Pos} (h : SL X W ρ e fun n d => R.nx ((ρ.to n).set i (.ow d))) (hi : X.N[i]? = some x := by rfl) (hl : X.env.scope.names.lookup x = some .local := by rfl) (hs : swapsWith e (some (.Name x py)) spos.line X.env = pure true := by rfl) : SN X W ρ (.Assign [.Name x py] e spos) R := by
  obtain ⟨t, _, ps, h⟩ := h
  exact SN.of (ps i x py spos hi hl hs) fun σ H D r f => h σ H _ r fun p H1 n d s1 hp r1 r2 c k => f.nx _ H1 _ (r2.setOw r1 i (r.fresh0 hp).2 (r.fresh0 hp).1 c) k
theorem FolF.rep {σ : L2.St} {H H1 : Hp} {p : Addr} {n : Nat} {d : D} (r : RE X.K X.w W H σ ρ) (hp : H p = none) (r2 : RE X.K X.w (W.add p) H1 σ (ρ.to n)) (c : Con X.K X.w W.g H1 (Fb (p :: W.O) σ ρ.s) p d) : Rep X.K X.w W.g H1 (Fb W.O σ ρ.s) d (.ref p) := by
  refine Con.rep (r.fresh hp) (Con.mono (fun {ds vs} h => ?_) (fun _ e => e) c)
  refine r2.repL (W := W.add p) (.refl W.g H1) (fun b u n _ z => n ?_) (fun b n z => n (.inl z)) h
  rcases z with z | z
  · exact .inl (List.mem_cons_of_mem _ z)
  · exact .inr z
theorem sn_setLc (i : Nat) {x : Str} {e : Expr} {R : RD} {py spos : Pos} (h : SL X W ρ e fun n d => R.nx ((ρ.to n).set i (.va d))) (hi : X.N[i]? = some x := by rfl) (hl : X.env.scope.names.lookup x = some .local := by rfl) (hs : swapsWith e (some (.Name x py)) spos.line X.env = pure true := by rfl) : SN X W ρ (.Assign [.Name x py] e spos) R := by
  obtain ⟨t, _, ps, h⟩ := h
  exact SN.of (ps i x py spos hi hl hs) fun σ H D r f => h σ H _ r fun p H1 n d s1 hp r1 r2 c k => f.nx _ H1 _ (r1.setVa i (FolF.rep (ρ := ρ) r hp r2 c)) k
/-- [elt for x in iter] -/
theorem sl_lc (i : Nat) {x : Str} (hc : X.calm = true) (hN : X.N.Nodup) (h : SI X W ρ (.Name x p1) iter fun n ds => ds.length ≤ 1000000 ∧ ∃ J : Nat → Nat → List D → Prop, J 0 n [] ∧ CompT X W ρ scope i elt ds J ∧ ∀ m acc, J ds.length m acc → K m (.lst acc))
    (ok : blkC X.N X.env.scope scope [(x, i)] = true := by kernel_rfl) (hi : X.N[i]? = some x := by rfl) (hx : ∀ s Hb C cl fp, Loc (Blk X scope s Hb C cl fp).env.scope x := by intros; first | exact Or.inl rfl | exact Or.inr rfl)
    (hf : ∀ s Hb C cl fp, (Blk X scope s Hb C cl fp).fn x = true ∨ (Blk X scope s Hb C cl fp).env.scope.names.lookup x = some .local := by intros; first | exact .inl rfl | exact .inr rfl)
    (hs : ∀ x, foldedSetIterable iter X.env x = pure x := by intro _; rfl) : SL X W ρ (.ListComp elt [⟨.Name x p1, iter, [], 0⟩] scope pos) K := by
  obtain ⟨wi, pi, h⟩ := h
  refine SL.of (own := [(x, i)]) (g := gName i) (tt := tYes) (te := tBlk X scope elt) hc hN pi (blkOk_by ok) (fun s Hb C cl fp => pg_name (i := i) hN hi (hx s Hb C cl fp) (hf s Hb C cl fp)) (fun _ _ _ _ _ => pts_nil) (fun s Hb C cl fp => pe_blk s Hb C cl fp) hs fun σ H Q r f => h σ H _ r fun It0 H1 n ds γ s1 r1 ok ⟨hz, J, j0, turn, fin⟩ => ?_
  refine fun p hp => lc_read r f s1 r1 ok j0 fin hz (fun k d m acc p H' QT QF hk hj hp x r2 hT hF => ?_) p hp
  unfold tYes
  dsimp only
  rw [if_pos rfl]
  exact ⟨_, _, r2, _, fun s Hb C cl fp => turn k d m acc (γ ++ ρ.h) (W.blk σ ρ.s p) hk hj rfl s Hb C cl fp, fun v H4 m' dy s4 r4 h4 j4 => hT v H4 m' dy s4 r4 h4 j4⟩
/-- [elt for x in iter if c] -/
theorem sl_lcI (i : Nat) {x : Str} (hc : X.calm = true) (hN : X.N.Nodup) (h : SI X W ρ (.Name x p1) iter fun n ds => ds.length ≤ 1000000 ∧ ∃ J : Nat → Nat → List D → Prop, J 0 n [] ∧ CompI X W ρ scope i elt c ds J ∧ ∀ m acc, J ds.length m acc → K m (.lst acc))
    (ok : blkC X.N X.env.scope scope [(x, i)] = true := by kernel_rfl) (hi : X.N[i]? = some x := by rfl) (hx : ∀ s Hb C cl fp, Loc (Blk X scope s Hb C cl fp).env.scope x := by intros; first | exact Or.inl rfl | exact Or.inr rfl)
    (hf : ∀ s Hb C cl fp, (Blk X scope s Hb C cl fp).fn x = true ∨ (Blk X scope s Hb C cl fp).env.scope.names.lookup x = some .local := by intros; first | exact .inl rfl | exact .inr rfl)
    (hs : ∀ x, foldedSetIterable iter X.env x = pure x := by intro _; rfl) : SL X W ρ (.ListComp elt [⟨.Name x p1, iter, [c], 0⟩] scope pos) K := by
  obtain ⟨wi, pi, h⟩ := h
  refine SL.of (own := [(x, i)]) (g := gName i) (tt := tBlkT X scope c) (te := tBlk X scope elt) hc hN pi (blkOk_by ok) (fun s Hb C cl fp => pg_name (i := i) hN hi (hx s Hb C cl fp) (hf s Hb C cl fp)) (fun s Hb C cl fp => pts_one (pt_blk s Hb C cl fp)) (fun s Hb C cl fp => pe_blk s Hb C cl fp) hs fun σ H Q r f => h σ H _ r fun It0 H1 n ds γ s1 r1 ok ⟨hz, J, j0, turn, fin⟩ => ?_
  refine fun p hp => lc_read r f s1 r1 ok j0 fin hz (fun k d m acc p H' QT QF hk hj hp x r2 hT hF => ?_) p hp
  refine ⟨_, _, r2, _, fun s Hb C cl fp => turn k d m acc (γ ++ ρ.h) (W.blk σ ρ.s p) hk hj rfl s Hb C cl fp, fun b H4 m' s4 r4 h4 => ?_⟩
  cases b with
  | true =>
    rw [if_pos rfl] at h4 ⊢
    exact ⟨_, _, r4, _, h4, fun v H5 m2 dy s5 r5 h5 j5 => hT v H5 m2 dy (s4.trans s5) r5 h5 j5⟩
  | false =>
    rw [if_neg Bool.false_ne_true] at h4 ⊢
    exact hF H4 m' s4 r4 h4
end
end Sk
set_option maxHeartbeats 4000000
/-! S8: contracts, calls; lists changed; subscripts, fields, built-ins. -/
namespace Sk
open PySem PySem.Spec PyProof.Rows L2

/-! ### contracts -/
/-- what a def does: draws left, arguments, what follows (draws left, result) -/
abbrev CT := Nat → List D → (Nat → D → Prop) → Prop
structure Cal (K : PySem.W.Frag) (g : G) (O : List Addr) (H : Hp) (n : Nat) : Prop where
  src : ∀ p, g = some p → p.1 ∈ O ∧ p.2.1 ∈ O ∧ (p.2.2.1 ∈ O ∧ ∀ t ∈ p.2.2.2, t.1 ∈ O) ∧ SrcOk K H p n
  tr : ∀ a ∈ O, ∃ o, H a = some o
def spD (K : PySem.W.Frag) (w : World) (ct : CT) : Sp := fun vs H Q _ => ∃ (g : G) (O : List Addr) (n : Nat) (ds : List D) (Kp : Nat → D → Prop), Cal K g O H n ∧ RepL K w g H (· ∈ O) ds vs ∧ ct n ds Kp ∧
  ∀ v H' n' d, SameG g H H' → Cal K g O H' n' → Rep K w g H' (· ∈ O) d v → Kp n' d → Q v H'
/-- the def x keeps the contract, by at most k levels -/
def DefOk (P : Program) (w : World) (K : PySem.W.Frag) (mg : Str → Option Value) (base : Heap) (x : Str) (k : Nat) (ps : List Str) (ct : CT) : Prop :=
  ∃ f fd, FnOk P w K mg base CX0 k f fd ps (spD K w ct) ∧ mg x = some (.ref f) ∧ PySem.W.keepIn K (.ref f) = true ∧ Binds K fd ps []
section
variable {X : Cx} {W : Fm} {ρ : En} {K : Nat → D → Prop} {e : Expr} {es : List Expr} {pos p1 : Pos}
theorem Fol.call {ct : CT} {σ : L2.St} {H : Hp} {vs : List V} {ds : List D} {Q : VK} (f : Fol X W ρ σ H K Q) (r : RE X.K X.w W H σ ρ) (h : RepL X.K X.w W.g H (Fb W.O σ ρ.s) ds vs) (hc : ct ρ.n ds K) (E : XK) : spD X.K X.w ct vs H Q E := by
  refine ⟨W.g, W.O ++ ownsOf σ ρ.s, ρ.n, ds, K, ⟨fun p e => ?_, fun a ha => ?_⟩, ?_, hc, fun v H' n' d s c hr k => ?_⟩
  · obtain ⟨h1, h2, h3, h4⟩ := r.src p e
    exact ⟨List.mem_append_left _ h1, List.mem_append_left _ h2, ⟨List.mem_append_left _ h3.1, fun t ht => List.mem_append_left _ (h3.2 t ht)⟩, h4⟩
  · rcases List.mem_append.mp ha with z | z
    · exact r.tr a z
    · obtain ⟨i, d, e1, e2⟩ := mem_owns.mp z
      obtain ⟨a', e3, _, _, c⟩ := r.slot i _ e1
      rw [e2] at e3
      cases e3
      exact c.there
  · exact r.repL (.refl W.g H) (fun b _ n _ z => n (fb_iff.mpr z)) (fun _ => fb_O) h
  · have r1 := r.step (n := n') s fun p e => (c.src p e).2.2.2
    refine f v H' n' d s r1 (Rep.mono (fun _ _ e => e) (fun _ _ _ e => e) (fun b o n e => ⟨e, fun z => n (fb_iff.mp z)⟩) _ _ hr) k
theorem se_call {x : Str} {k : Nat} {ps : List Str} {ct : CT} (hD : DefOk X.prog X.w X.K X.mg X.base x k ps ct) (hr : Room k X.A) (h : SA X W ρ (e :: es) fun n ds => ct n ds K) (hg : Gl X x := by rfl) (hdb : (x == ("__debug__" : Str)) = false := by decide) (he : starEach (e :: es) X.env = (false, eval e X.env) :: starEach es X.env := by rfl) (hpl : (backTo pos (starEach es X.env)).any (·.1) = false := by rfl) :
    SE X W ρ (.Call (.Name x p1) (e :: es) [] pos) K := by
  obtain ⟨f, fd, F, hm, hk, hb⟩ := hD
  refine SE.of (pe_call F hr hg hm hk hb .nil pass0 (pa_X (W := W) (ρ := ρ)) (hdb := hdb) (he := he) (hpl := hpl)) fun σ H Q r f => ⟨ρ.n, r, _, h, fun vs H1 n ds s1 r1 p1 hc => ?_⟩
  dsimp only
  rw [List.append_nil]
  exact (f.later (n := n) s1).call r1 p1 hc _
/-- the slots at a def's entry -/
def startD (N : List Str) (ds : List D) : List Sl := ds.map Sl.va ++ List.replicate (N.length - ds.length) Sl.un
theorem start_get {N : List Str} {ds : List D} {i : Nat} {l : Sl} (h : (startD N ds)[i]? = some l) : l = .un ∨ ∃ d, l = .va d ∧ ds[i]? = some d := by
  unfold startD at h
  by_cases hi : i < ds.length
  · rw [List.getElem?_append_left (by rw [List.length_map]; exact hi), List.getElem?_map, List.getElem?_eq_getElem hi] at h
    exact .inr ⟨ds[i], (Option.some.inj h).symm, List.getElem?_eq_getElem hi⟩
  · rw [List.getElem?_append_right (by rw [List.length_map]; omega)] at h
    obtain ⟨h1, h2⟩ := List.getElem?_eq_some_iff.mp h
    rw [List.getElem_replicate] at h2
    exact .inl h2.symm
theorem start_val {N : List Str} {vs : List V} {i : Nat} {v : V} (h : vs[i]? = some v) : (L2.start N vs)[i]? = some (some v) := by
  have hi : i < vs.length := (List.getElem?_eq_some_iff.mp h).1
  unfold L2.start
  rw [List.getElem?_append_left (by rw [List.length_map]; exact hi), List.getElem?_map, h]
  rfl
theorem re_start {K : PySem.W.Frag} {w : World} {g : G} {O : List Addr} {H : Hp} {n : Nat} {N : List Str} {ds : List D} {vs : List V} (c : Cal K g O H n) (h : RepL K w g H (· ∈ O) ds vs) : RE K w ⟨g, O, H⟩ H (L2.start N vs) ⟨n, startD N ds, []⟩ := by
  have no : ∀ (i : Nat) (d : D), (startD N ds)[i]? ≠ some (.ow d) := fun i d e => by
    rcases start_get e with z | ⟨_, z, _⟩ <;> cases z
  have fb : ∀ b, Fb O (L2.start N vs) (startD N ds) b → b ∈ O := fun b z => by
    rcases z with z | ⟨i, d, e, _⟩
    · exact z
    · exact absurd e (no i d)
  have el := h.length
  refine ⟨?_, .refl g H, c.src, c.tr, fun p hp => (nomatch hp), fun i l e => ?_, fun i j d d' a e1 _ _ _ => absurd e1 (no i d)⟩
  · show (startD N ds).length = (L2.start N vs).length
    unfold startD L2.start
    rw [List.length_append, List.length_append, List.length_map, List.length_map, List.length_replicate, List.length_replicate, el]
  · rcases start_get e with z | ⟨d, z, hd⟩
    · subst z
      trivial
    · subst z
      obtain ⟨v, hv, hr⟩ := h.get hd
      exact ⟨v, start_val hv, Rep.mono (fun _ _ e => e) (fun _ _ _ e => e) (fun b o n e => ⟨e, fun z => n (fb b z)⟩) _ _ hr⟩
/-- THE RULE for a def -/
theorem def_ok {P : Program} {w : World} {K : PySem.W.Frag} {mg : Str → Option Value} {base : Heap} {x : Str} {st : Stmt} {f : Addr} {fd : FuncData} {N ps : List Str} {k : Nat} {ct : CT} (F : Fun K x x st f fd) (hm : mg x = some (.ref f)) (hb : Binds K fd ps [])
    (S : FnScope N ps (defScope st)) (len : ∀ n ds Kp, ct n ds Kp → ds.length = ps.length)
    (body : ∀ (cdv : Value) (A : Around) (outer : List Env) (s : Shared) (H : Hp) (E : XK) (W : Fm) (n : Nat) (ds : List D) (Kp : Nat → D → Prop), Room k (A.deeper (envOfC x (defScope st) s.heap.objs.size f cdv)) → ct n ds Kp →
      SS (cxOf CX0 P w K mg base N x (defScope st) f cdv A outer s H E).nox W ⟨n, startD N ds, []⟩ (defBody st) ⟨fun ρ' => Kp ρ'.n .non, Kp, fun _ => False, fun _ => False⟩) : DefOk P w K mg base x (k + 1) ps ct := by
  refine ⟨f, fd, F.ok S (fun vs H Q E h => ?_) (fun cdv A outer s H vs Q E hr h => ?_), hm, F.kp, hb⟩
  · obtain ⟨g, O, n, ds, Kp, _, hR, hc, _⟩ := h
    rw [← hR.length]
    exact len n ds Kp hc
  · obtain ⟨g, O, n, ds, Kp, cal, hR, hc, q⟩ := h
    refine ⟨_, pss_X (W := ⟨g, O, H⟩), ⟨_, re_start cal hR, _, body cdv A outer s H E ⟨g, O, H⟩ n ds Kp hr hc, ⟨fun σ' H' ρ' r' k' => ?_, fun v H' n' d rt rp k' => ?_, fun _ _ _ _ z => z.elim, fun _ _ _ _ z => z.elim⟩⟩⟩
    · exact q .non H' ρ'.n .non r'.same ⟨r'.src, r'.tr⟩ rfl k'
    · exact q v H' n' d rt.same ⟨rt.src, rt.tr⟩ rp k'
end

/-! ### the frame's own list grows -/
section
variable {X : Cx} {W : Fm} {ρ : En} {R : RD} {e : Expr} {pos p1 p2 p3 : Pos}
theorem sn_append (i : Nat) {x : Str} {ds : List D} (h : SE X W ρ e fun n d => ds.length ≤ 1000000 ∧ R.nx ((ρ.to n).set i (.ow (.lst (ds ++ [d]))))) (hl : ρ.s[i]? = some (.ow (.lst ds)) := by rfl) (hN : X.N[i]? = some x := by rfl)
    (hv : Vis X.env.scope x := by first | exact Or.inl rfl | exact Or.inr (Or.inl rfl) | exact Or.inr (Or.inr rfl)) (hdb : (x == ("__debug__" : Str)) = false := by decide) (hcd : (x == ("__classdict__" : Str)) = false := by decide)
    (hfew : ((backTo p3 (starEach (e :: []) X.env)).all (fun x => !x.1) && (backToKw p3 (keywordEach [] X.env)).all (fun x => x.1.isSome)
      && decide ((e :: ([] : List Expr)).length + ([] : List Keyword).length + (if ([] : List Keyword).isEmpty then 0 else 1) < 30)) = true := by rfl)
    (hline : (p2.endLine == p3.line) = true := by rfl) (hs : starEach [e] X.env = [(false, eval e X.env)] := by rfl)
    (hsw : swapsWith (.Call (.Attribute (.Name x p1) "append" p2) [e] [] p3) none pos.line X.env = pure false := by rfl) : SN X W ρ (.Expr (.Call (.Attribute (.Name x p1) "append" p2) [e] [] p3) pos) R := by
  refine SN.of (ps_expr (pe_bm PySem.F.plainAttrs_list PySem.F.slot_list_append PySem.F.type_list_append mt_append (pe_var hN hv hdb hcd) (pa_cons (pe_X (W := W) (ρ := ρ)) pa_nil hs) rfl hfew hline hs rfl) hsw) fun σ H D r f => ?_
  obtain ⟨a, e0, n1, n2, vs, q, rl⟩ := r.slot i _ hl
  refine ⟨.ref a, e0, .inl ⟨rfl, vs, .of q⟩, ρ.n, r, _, h, fun v H1 n d s1 r1 p1 ⟨hz, k⟩ => ?_⟩
  have q1 : H1 a = some (.lst vs) := s1 _ _ q (r.notG n1)
  have rl1 := r.repL' s1 rl
  refine ⟨a, vs, v, rfl, rfl, q1, ?_, ?_⟩
  · rw [← rl.length]
    exact Nat.lt_of_le_of_lt hz (by decide)
  · refine f.nx σ _ _ (r1.write (d' := .lst (ds ++ [d])) hl e0 fun F up => ⟨vs ++ [v], upd_same, up (rl1.append ⟨v, [], rfl, p1, rfl⟩)⟩) k
end

/-! ### subscripts, fields -/
section
variable {X : Cx} {W : Fm} {ρ : En} {K : Nat → D → Prop} {a b : Expr} {pos : Pos}
inductive IxD : D → D → D → Prop
  | lst {ds : List D} {i : Int} {d : D} : 0 ≤ i → ds[i.toNat]? = some d → IxD (.lst ds) (.int i) d
  | tup {ds : List D} {i : Int} {d : D} : 0 ≤ i → ds[i.toNat]? = some d → IxD (.tup ds) (.int i) d
  | str {x : Str} {i : Int} {c : Nat} : 0 ≤ i → x.length ≤ sizeLine → x.cps.toList[i.toNat]? = some c → IxD (.str x) (.int i) (.str ⟨#[c]⟩)
theorem atI_of {α : Type} {xs : List α} {i : Int} {v : α} (h0 : 0 ≤ i) (h : xs[i.toNat]? = some v) : atI xs i = some v := by
  have e : i = ((i.toNat : Nat) : Int) := by omega
  rw [e]
  exact atI_nat h
theorem se_ix (h : SB X W ρ a fun n x => SB X W (ρ.to n) b fun m y => ∃ z, IxD x y z ∧ K m z) (hs : PlainIx b := by exact fun _ _ => rfl) : SE X W ρ (.Subscript a b pos) K := by
  refine SE.of (pe_ix ((ix_list.or ix_tup).or ix_str) (pe_XB (W := W) (ρ := ρ)) (pe_XB (W := W) (ρ := ρ)) hs) fun σ H Q re f => tOp_of re (h.imp fun n x h => h.imp fun m y ⟨z, hz, k⟩ => ?_) f
  intro σ H vx vy Q r px py f
  cases hz with
  | lst h0 hi =>
    obtain ⟨p, vs, e1, _, q1, r1⟩ := px
    obtain ⟨v, hv, hr⟩ := r1.get hi
    exact .inl (.inl ⟨p, vs, _, v, e1, py, .of q1, atI_of h0 hv, f.now r hr k⟩)
  | tup h0 hi =>
    obtain ⟨p, vs, e1, q1, r1⟩ := px
    obtain ⟨v, hv, hr⟩ := r1.get hi
    exact .inl (.inr ⟨p, vs, _, v, e1, py, q1, atI_of h0 hv, f.now r hr k⟩)
  | @str x i c h0 hl hi => exact .inr ⟨x, i, c, px, py, hl, atI_of h0 hi, f.now r (d := .str ⟨#[c]⟩) rfl k⟩
theorem lookup_zip : ∀ {ns : List Str} {ds : List D} {vs : List V} {f : Str} {d : D} {Kf : PySem.W.Frag} {w : World} {g : G} {H : Hp} {F : Addr → Prop}, RepL Kf w g H F ds vs → (ns.zip ds).lookup f = some d → ∃ v, (ns.zip vs).lookup f = some v ∧ Rep Kf w g H F d v
  | [], ds, vs, f, d, _, _, _, _, _, _, h => by cases ds <;> cases h
  | n :: ns, [], vs, f, d, _, _, _, _, _, _, h => by cases h
  | n :: ns, d0 :: ds, vs, f, d, Kf, w, g, H, F, ⟨v, r, e, h1, h2⟩, h => by
    subst e
    rw [List.zip_cons_cons, List.lookup_cons] at h ⊢
    cases hb : f == n with
    | true =>
      rw [hb] at h
      have e' : d0 = d := Option.some.inj h
      subst e'
      exact ⟨v, rfl, h1⟩
    | false =>
      rw [hb] at h
      exact lookup_zip h2 h
theorem se_fld {f : Str} (h : SB X W ρ a fun n x => ∃ c ns ds d, x = .obj c ns ds ∧ Cls X.K c ∧ NoAttr X.K c f ∧ (ns.zip ds).lookup f = some d ∧ K n d) (hb : attributeBase a f X.env (eval a X.env) = eval a X.env := by rfl) : SE X W ρ (.Attribute a f pos) K :=
  SE.of (pe_fld (pe_XB (W := W) (ρ := ρ)) hb) fun σ H Q r fo => ⟨ρ.n, r, _, h, fun v H1 n x s1 r1 p1 ⟨c, ns, ds, d, e, hC, hA, hl, k⟩ => by
    subst e
    obtain ⟨p, dx, vs, e1, _, q1, rl, _⟩ := p1
    obtain ⟨v', hv, hr⟩ := lookup_zip rl hl
    exact ⟨p, c, dx, _, v', e1, q1, hC, hA, hv, fo v' H1 n d s1 r1 hr k⟩⟩
end
end Sk
set_option maxHeartbeats 4000000
/-! S9: built-in calls, isinstance, ==, in, chains. -/
namespace Sk
open PySem PySem.Spec PyProof.Rows L2

theorem CallR.or {X : Cx} {f : Value} {r r' : List V → Hp → VK → Prop} (h : CallR X f r) (h' : CallR X f r') : CallR X f (fun xs H Q => r xs H Q ∨ r' xs H Q) := by
  intro pins s σ H xs us Q I rv q
  rcases q with q | q
  · exact h pins s σ H xs us Q I rv q
  · exact h' pins s σ H xs us Q I rv q

section
variable {X : Cx} {W : Fm} {ρ : En} {K : Nat → D → Prop} {e e2 : Expr} {pos p1 : Pos}
/-- a call by values of one, two values, told of data -/
def R1 (X : Cx) (W : Fm) (ρ : En) (r : List V → Hp → VK → Prop) (d : D) (K : Nat → D → Prop) : Prop :=
  ∀ (σ : L2.St) (H : Hp) (v : V) (Q : VK), RE X.K X.w W H σ ρ → Rdv X.K X.w W.g H (Fb W.O σ ρ.s) d v → Fol X W ρ σ H K Q → r [v] H Q
def R1F (X : Cx) (W : Fm) (ρ : En) (r : List V → Hp → VK → Prop) (d : D) (K : Nat → D → Prop) : Prop :=
  ∀ (σ : L2.St) (H : Hp) (v : V) (Q : VK), RE X.K X.w W H σ ρ → Rdv X.K X.w W.g H (Fb W.O σ ρ.s) d v → FolF X W ρ σ H K Q → r [v] H Q
def R2' (X : Cx) (W : Fm) (ρ : En) (r : List V → Hp → VK → Prop) (d d2 : D) (K : Nat → D → Prop) : Prop :=
  ∀ (σ : L2.St) (H : Hp) (v v2 : V) (Q : VK), RE X.K X.w W H σ ρ → Rdv X.K X.w W.g H (Fb W.O σ ρ.s) d v → Rdv X.K X.w W.g H (Fb W.O σ ρ.s) d2 v2 → Fol X W ρ σ H K Q → r [v, v2] H Q
theorem se_b1 {id : String} {x : Str} {r : List V → Hp → VK → Prop} (hc : CallR X (.builtin id) r) (hm : X.mg x = none) (hv : bootBuiltins x = some (.builtin id)) (h : SB X W ρ e fun n d => R1 X W (ρ.to n) r d K) (hg : Gl X x := by rfl) (hn : x ≠ "__name__" := by decide)
    (hdb : (x == ("__debug__" : Str)) = false := by decide) (hs : starEach [e] X.env = (false, eval e X.env) :: starEach [] X.env := by rfl) : SE X W ρ (.Call (.Name x p1) [e] [] pos) K :=
  SE.of (pe_callB hc hg hm hv (pa_cons (pe_XB (W := W) (ρ := ρ)) pa_nil hs) hn hdb (he := hs)) fun σ H Q r f => ⟨ρ.n, r, _, h, fun v H1 n d s1 r1 p1 h1 => h1 σ H1 v Q r1 p1 (f.later s1)⟩
theorem se_t1 {T : String} {x : Str} {r : List V → Hp → VK → Prop} (hc : CallR X (.type T) r) (hm : X.mg x = none) (hv : bootBuiltins x = some (.type T)) (h : SB X W ρ e fun n d => R1 X W (ρ.to n) r d K) (hg : Gl X x := by rfl) (hn : x ≠ "__name__" := by decide)
    (hdb : (x == ("__debug__" : Str)) = false := by decide) (hs : starEach [e] X.env = (false, eval e X.env) :: starEach [] X.env := by rfl) : SE X W ρ (.Call (.Name x p1) [e] [] pos) K :=
  SE.of (pe_callTy hc hg hm hv (pa_cons (pe_XB (W := W) (ρ := ρ)) pa_nil hs) hn hdb (he := hs)) fun σ H Q r f => ⟨ρ.n, r, _, h, fun v H1 n d s1 r1 p1 h1 => h1 σ H1 v Q r1 p1 (f.later s1)⟩
theorem sf_t1 {T : String} {x : Str} {r : List V → Hp → VK → Prop} (hc : CallR X (.type T) r) (hm : X.mg x = none) (hv : bootBuiltins x = some (.type T)) (h : SB X W ρ e fun n d => R1F X W (ρ.to n) r d K) (hg : Gl X x := by rfl) (hn : x ≠ "__name__" := by decide)
    (hdb : (x == ("__debug__" : Str)) = false := by decide) (hs : starEach [e] X.env = (false, eval e X.env) :: starEach [] X.env := by rfl) : SF X W ρ (.Call (.Name x p1) [e] [] pos) K :=
  SF.of (pe_callTy hc hg hm hv (pa_cons (pe_XB (W := W) (ρ := ρ)) pa_nil hs) hn hdb (he := hs)) fun σ H Q r f => ⟨ρ.n, r, _, h, fun v H1 n d s1 r1 p1 h1 => h1 σ H1 v Q r1 p1 (f.later s1 (r.free r1 s1))⟩
theorem sf_b1 {T : String} {x : Str} {r : List V → Hp → VK → Prop} (hc : CallR X (.builtin T) r) (hm : X.mg x = none) (hv : bootBuiltins x = some (.builtin T)) (h : SB X W ρ e fun n d => R1F X W (ρ.to n) r d K) (hg : Gl X x := by rfl) (hn : x ≠ "__name__" := by decide)
    (hdb : (x == ("__debug__" : Str)) = false := by decide) (hs : starEach [e] X.env = (false, eval e X.env) :: starEach [] X.env := by rfl) : SF X W ρ (.Call (.Name x p1) [e] [] pos) K :=
  SF.of (pe_callB hc hg hm hv (pa_cons (pe_XB (W := W) (ρ := ρ)) pa_nil hs) hn hdb (he := hs)) fun σ H Q r f => ⟨ρ.n, r, _, h, fun v H1 n d s1 r1 p1 h1 => h1 σ H1 v Q r1 p1 (f.later s1 (r.free r1 s1))⟩
theorem se_b2 {id : String} {x : Str} {r : List V → Hp → VK → Prop} (hc : CallR X (.builtin id) r) (hm : X.mg x = none) (hv : bootBuiltins x = some (.builtin id)) (h : SB X W ρ e fun n d => SB X W (ρ.to n) e2 fun m d2 => R2' X W (ρ.to m) r d d2 K) (hg : Gl X x := by rfl) (hn : x ≠ "__name__" := by decide)
    (hdb : (x == ("__debug__" : Str)) = false := by decide) (hs : starEach [e, e2] X.env = (false, eval e X.env) :: starEach [e2] X.env := by rfl) (hs2 : starEach [e2] X.env = (false, eval e2 X.env) :: starEach [] X.env := by rfl) (hp : (backTo pos (starEach [e2] X.env)).any (·.1) = false := by rfl) : SE X W ρ (.Call (.Name x p1) [e, e2] [] pos) K :=
  SE.of (pe_callB hc hg hm hv (pa_cons (pe_XB (W := W) (ρ := ρ)) (pa_cons (pe_XB (W := W) (ρ := ρ)) pa_nil hs2) hs) hn hdb (he := hs) (hpl := hp)) fun σ H Q r f => ⟨ρ.n, r, _, h, fun v H1 n d s1 r1 p1 h1 => ⟨n, r1, _, h1, fun v2 H2 m d2 s2 r2 p2 h2 => h2 σ H2 v v2 Q r2 (r1.rd s2 p1) p2 (f.later (s1.trans s2))⟩⟩

/-! ### numbers -/
theorem se_abs (hm : X.mg "abs" = none) (h : SB X W ρ e fun n d => ∃ i, d = .int i ∧ K n (.int (if i < 0 then -i else i))) (hg : Gl X "abs" := by rfl) (hs : starEach [e] X.env = (false, eval e X.env) :: starEach [] X.env := by rfl) : SE X W ρ (.Call (.Name "abs" p1) [e] [] pos) K :=
  se_b1 call_abs hm boot_abs (h.imp fun n d ⟨i, ed, k⟩ => by subst ed; exact fun σ H v Q r p f => ⟨i, by rw [show v = .int i from p], f.now r (d := .int _) rfl k⟩) hg (hs := hs)
theorem se_toint (hm : X.mg "int" = none) (h : SB X W ρ e fun n d => ∃ i, d = .int i ∧ K n (.int i)) (hg : Gl X "int" := by rfl) (hs : starEach [e] X.env = (false, eval e X.env) :: starEach [] X.env := by rfl) : SE X W ρ (.Call (.Name "int" p1) [e] [] pos) K :=
  se_t1 call_int1 hm PyProof.Rows.boot_int (h.imp fun n d ⟨i, ed, k⟩ => by subst ed; exact fun σ H v Q r p f => .inl ⟨i, by rw [show v = .int i from p], f.now r (d := .int i) rfl k⟩) hg (hs := hs)
theorem se_min (hm : X.mg "min" = none) (hc : X.calm = true) (h : SB X W ρ e fun n x => SB X W (ρ.to n) e2 fun m y => ∃ i j, x = .int i ∧ y = .int j ∧ K m (.int (if j < i then j else i))) (hg : Gl X "min" := by rfl)
    (hs : starEach [e, e2] X.env = (false, eval e X.env) :: starEach [e2] X.env := by rfl) (hs2 : starEach [e2] X.env = (false, eval e2 X.env) :: starEach [] X.env := by rfl) (hp : (backTo pos (starEach [e2] X.env)).any (·.1) = false := by rfl) : SE X W ρ (.Call (.Name "min" p1) [e, e2] [] pos) K :=
  se_b2 (call_min2 hc) hm boot_min (h.imp fun n x h => h.imp fun m y ⟨i, j, e1, e2, k⟩ => by subst e1 e2; exact fun σ H v v2 Q r p p2 f => ⟨i, j, by rw [show v = .int i from p, show v2 = .int j from p2], f.now r (d := .int _) rfl k⟩) hg (hs := hs) (hs2 := hs2) (hp := hp)
theorem se_max (hm : X.mg "max" = none) (hc : X.calm = true) (h : SB X W ρ e fun n x => SB X W (ρ.to n) e2 fun m y => ∃ i j, x = .int i ∧ y = .int j ∧ K m (.int (if j > i then j else i))) (hg : Gl X "max" := by rfl)
    (hs : starEach [e, e2] X.env = (false, eval e X.env) :: starEach [e2] X.env := by rfl) (hs2 : starEach [e2] X.env = (false, eval e2 X.env) :: starEach [] X.env := by rfl) (hp : (backTo pos (starEach [e2] X.env)).any (·.1) = false := by rfl) : SE X W ρ (.Call (.Name "max" p1) [e, e2] [] pos) K :=
  se_b2 (call_max2 hc) hm boot_max (h.imp fun n x h => h.imp fun m y ⟨i, j, e1, e2, k⟩ => by subst e1 e2; exact fun σ H v v2 Q r p p2 f => ⟨i, j, by rw [show v = .int i from p, show v2 = .int j from p2], f.now r (d := .int _) rfl k⟩) hg (hs := hs) (hs2 := hs2) (hp := hp)

/-! ### list(range(..)), list(x), tuple(x), all(bools) -/
theorem RepL.rng {Kf : PySem.W.Frag} {w : World} {g : G} {H : Hp} {F : Addr → Prop} (lo : Int) : ∀ (l : List Nat), RepL Kf w g H F (l.map fun i => D.int (lo + (i : Nat))) (l.map fun i => V.int (lo + (i : Nat)))
  | [] => rfl
  | i :: l => ⟨_, _, rfl, rfl, RepL.rng lo l⟩
theorem sf_listR1 {a : Expr} {q1 q2 : Pos} (hc : X.calm = true) (hl : X.mg "list" = none) (hm : X.mg "range" = none) (h : SB X W ρ a fun n d => ∃ i : Int, d = .int i ∧ 0 ≤ i ∧ i ≤ 1000000 ∧ K n (.lst (rngD 0 i.toNat))) (hg : Gl X "list" := by rfl) (hg2 : Gl X "range" := by rfl)
    (na : starEach [a] X.env = (false, eval a X.env) :: starEach [] X.env := by rfl) (nb : starEach [Expr.Call (.Name "range" q1) [a] [] q2] X.env = (false, eval (.Call (.Name "range" q1) [a] [] q2) X.env) :: starEach [] X.env := by rfl) : SF X W ρ (.Call (.Name "list" p1) [.Call (.Name "range" q1) [a] [] q2] [] pos) K :=
  SF.of (pe_listRg hc hg hl (prg_1 hg2 hm (pe_XB (W := W) (ρ := ρ)) na) nb) fun σ H Q r f => ⟨ρ.n, r, _, h, fun v H1 n d s1 r1 p1 ⟨i, e, h0, h1, k⟩ => by
    subst e
    refine ⟨i, p1, .of_le (Int.le_refl 0) (by omega) (by omega) h0, fun q hq => (f.later s1 (r.free r1 s1)).lst r1 ?_ k hq⟩
    unfold rgV rngD
    rw [Int.sub_zero]
    exact RepL.rng 0 _⟩
theorem sf_list (hm : X.mg "list" = none) (h : SB X W ρ e fun n d => ∃ ds, (d = .lst ds ∨ d = .tup ds) ∧ K n (.lst ds)) (hg : Gl X "list" := by rfl) (hs : starEach [e] X.env = (false, eval e X.env) :: starEach [] X.env := by rfl) : SF X W ρ (.Call (.Name "list" p1) [e] [] pos) K :=
  sf_t1 call_list_of hm PyProof.Rows.boot_list (h.imp fun n d ⟨ds, ed, k⟩ => by
    intro σ H v Q r p f
    rcases ed with ed | ed
    · subst ed
      obtain ⟨a, vs, e1, _, q, rl⟩ := p
      exact ⟨a, vs, by rw [e1], .inl (.of q), fun l hl => f.lst r rl k hl⟩
    · subst ed
      obtain ⟨a, vs, e1, q, rl⟩ := p
      exact ⟨a, vs, by rw [e1], .inr q, fun l hl => f.lst r rl k hl⟩) hg (hs := hs)
theorem se_tuple (hm : X.mg "tuple" = none) (h : SB X W ρ e fun n d => ∃ ds, (d = .lst ds ∨ d = .tup ds) ∧ K n (.tup ds)) (hg : Gl X "tuple" := by rfl) (hs : starEach [e] X.env = (false, eval e X.env) :: starEach [] X.env := by rfl) : SE X W ρ (.Call (.Name "tuple" p1) [e] [] pos) K :=
  se_t1 call_tuple_of hm PyProof.Rows.boot_tuple (h.imp fun n d ⟨ds, ed, k⟩ => by
    intro σ H v Q r p f
    rcases ed with ed | ed
    · subst ed
      obtain ⟨a, vs, e1, _, q, rl⟩ := p
      exact ⟨a, vs, by rw [e1], .inl ⟨.of q, fun l hl => f.tup r rl k hl⟩⟩
    · subst ed
      obtain ⟨a, vs, e1, q, rl⟩ := p
      exact ⟨a, vs, by rw [e1], .inr ⟨q, f.now r (d := .tup ds) ⟨a, vs, rfl, q, rl⟩ k⟩⟩) hg (hs := hs)
theorem RepL.bls {Kf : PySem.W.Frag} {w : World} {g : G} {H : Hp} {F : Addr → Prop} : ∀ {bs : List Bool} {vs : List V}, RepL Kf w g H F (bs.map D.bl) vs → vs = bs.map V.bl
  | [], vs, h => h
  | b :: bs, vs, ⟨v, r, e, h1, h2⟩ => by
    rw [e, show v = .bl b from h1, RepL.bls h2]
    rfl
theorem se_all (hm : X.mg "all" = none) (hc : X.calm = true) (h : SB X W ρ e fun n d => ∃ bs : List Bool, d = .lst (bs.map D.bl) ∧ K n (.bl (bs.all id))) (hg : Gl X "all" := by rfl) (hs : starEach [e] X.env = (false, eval e X.env) :: starEach [] X.env := by rfl) : SE X W ρ (.Call (.Name "all" p1) [e] [] pos) K :=
  se_b1 (cr_all hc) hm boot_all (h.imp fun n d ⟨bs, ed, k⟩ => by
    subst ed
    intro σ H v Q r p f
    obtain ⟨a, vs, e1, _, q, rl⟩ := p
    rw [rl.bls] at q
    exact ⟨a, bs, by rw [e1], .of q, f.now r (d := .bl (bs.all id)) rfl k⟩) hg (hs := hs)

/-! ### == -/
mutual
def D.py : D → PyData
  | .non => .none
  | .bl b => .bool b
  | .int i => .int i
  | .str x => .str x
  | .tup ds => .tuple (pyL ds)
  | .lst ds => .list (pyL ds)
  | _ => .dict []
def pyL : List D → List PyData
  | [] => []
  | d :: ds => d.py :: pyL ds
end
mutual
/-- no dict, no object -/
def D.flat : D → Bool
  | .non => true
  | .bl _ => true
  | .int _ => true
  | .str _ => true
  | .tup ds => flatL ds
  | .lst ds => flatL ds
  | _ => false
def flatL : List D → Bool
  | [] => true
  | d :: ds => d.flat && flatL ds
end
section
variable {Kf : PySem.W.Frag} {w : World} {g : G} {H : Hp} {F : Addr → Prop}
mutual
theorem Rep.dp : ∀ (d : D) (v : V), d.flat = true → Rep Kf w g H F d v → Dp Kf H v d.py
  | .non, v, _, h => by
    have e : v = .non := h
    subst e
    exact .non
  | .bl b, v, _, h => by
    have e : v = .bl b := h
    subst e
    exact .bl b
  | .int b, v, _, h => by
    have e : v = .int b := h
    subst e
    exact .int b
  | .str b, v, _, h => by
    have e : v = .str b := h
    subst e
    exact .str b
  | .tup ds, v, f, ⟨a, vs, e, q, rl⟩ => by
    subst e
    exact .tup q (RepL.dp ds vs f rl)
  | .lst ds, v, f, ⟨a, vs, e, n, q, rl⟩ => by
    subst e
    exact .lst (.of q) (RepL.dp ds vs f rl)
  | .dct _ _, v, f, h => by cases f
  | .obj _ _ _, v, f, h => by cases f
  | .src, v, f, h => by cases f
  | .scr _, v, f, h => by cases f
  | .pin _ _, v, f, h => by cases f
  | .adr _, v, f, h => by cases f
theorem RepL.dp : ∀ (ds : List D) (vs : List V), flatL ds = true → RepL Kf w g H F ds vs → DpAll Kf H vs (pyL ds)
  | [], vs, _, h => by
    have e : vs = [] := h
    subst e
    exact .nil
  | d :: ds, vs, f, ⟨v, r, e, h1, h2⟩ => by
    subst e
    have f' : (d.flat && flatL ds) = true := f
    rw [Bool.and_eq_true] at f'
    exact .cons (Rep.dp d v f'.1 h1) (RepL.dp ds r f'.2 h2)
end
theorem Rdv.dp {d : D} {v : V} (f : d.flat = true) (h : Rdv Kf w g H F d v) : Dp Kf H v d.py := by
  cases d with
  | lst ds =>
    obtain ⟨a, vs, e, _, q, rl⟩ := h
    subst e
    exact .lst (.of q) (RepL.dp ds vs f rl)
  | non => exact Rep.dp (w := w) (g := g) (F := F) .non v f h
  | bl b => exact Rep.dp (w := w) (g := g) (F := F) (.bl b) v f h
  | int b => exact Rep.dp (w := w) (g := g) (F := F) (.int b) v f h
  | str b => exact Rep.dp (w := w) (g := g) (F := F) (.str b) v f h
  | tup ds => exact Rep.dp (w := w) (g := g) (F := F) (.tup ds) v f h
  | dct _ _ => cases f
  | obj _ _ _ => cases f
  | src => cases f
  | scr _ => cases f
  | pin _ _ => cases f
  | adr _ => cases f
end
def D.okE (d : D) : Bool := d.flat && SeqAt.shaped d.py
def eqD (x y : D) : Bool := PyData.eqv x.py y.py
section
variable {K : Nat → Bool → Prop}
theorem sc_eq (hu : X.A.units + 64 < cLine) (h : SB X W ρ e fun n x => SB X W (ρ.to n) e2 fun m y => x.okE = true ∧ y.okE = true ∧ K m (eqD x y)) : SC X W ρ .Eq e e2 K :=
  ⟨_, op_eqD hu, h.imp fun _ _ h => h.imp fun _ _ ⟨o1, o2, k⟩ => by
    rw [D.okE, Bool.and_eq_true] at o1 o2
    exact fun σ H vx vy Q r px py f => ⟨_, _, px.dp o1.1, py.dp o2.1, o1.2, o2.2, f.now r (d := .bl _) rfl ⟨_, rfl, k⟩⟩⟩
theorem sc_ne (hu : X.A.units + 64 < cLine) (h : SB X W ρ e fun n x => SB X W (ρ.to n) e2 fun m y => x.okE = true ∧ y.okE = true ∧ K m (!eqD x y)) : SC X W ρ .NotEq e e2 K :=
  ⟨_, op_neD hu, h.imp fun _ _ h => h.imp fun _ _ ⟨o1, o2, k⟩ => by
    rw [D.okE, Bool.and_eq_true] at o1 o2
    exact fun σ H vx vy Q r px py f => ⟨_, _, px.dp o1.1, py.dp o2.1, o1.2, o2.2, f.now r (d := .bl _) rfl ⟨_, rfl, k⟩⟩⟩
/-- flat values -/
def D.lf : D → Bool
  | .non => true
  | .bl _ => true
  | .int _ => true
  | .str _ => true
  | _ => false
def D.toV : D → V
  | .bl b => .bl b
  | .int i => .int i
  | .str x => .str x
  | _ => .non
theorem Rep.toV {Kf : PySem.W.Frag} {w : World} {g : G} {H : Hp} {F : Addr → Prop} : ∀ {d : D} {v : V}, d.lf = true → Rep Kf w g H F d v → v = d.toV
  | .non, v, _, h => h
  | .bl b, v, _, h => h
  | .int b, v, _, h => h
  | .str b, v, _, h => h
  | .tup ds, v, f, h => by cases f
  | .lst ds, v, f, h => by cases f
  | .dct _ _, v, f, h => by cases f
  | .obj _ _ _, v, f, h => by cases f
  | .src, v, f, h => by cases f
  | .scr _, v, f, h => by cases f
  | .pin _ _, v, f, h => by cases f
  | .adr _, v, f, h => by cases f
theorem Rdv.toV {Kf : PySem.W.Frag} {w : World} {g : G} {H : Hp} {F : Addr → Prop} {d : D} {v : V} (f : d.lf = true) (h : Rdv Kf w g H F d v) : v = d.toV := by
  cases d with
  | non => exact h
  | bl _ => exact h
  | int _ => exact h
  | str _ => exact h
  | tup _ => cases f
  | lst _ => cases f
  | dct _ _ => cases f
  | obj _ _ _ => cases f
  | src => cases f
  | scr _ => cases f
  | pin _ _ => cases f
  | adr _ => cases f
theorem RepL.toV {Kf : PySem.W.Frag} {w : World} {g : G} {H : Hp} {F : Addr → Prop} : ∀ {ds : List D} {vs : List V}, ds.all D.lf = true → RepL Kf w g H F ds vs → vs = ds.map D.toV
  | [], vs, _, h => h
  | d :: ds, vs, f, ⟨v, r, e, h1, h2⟩ => by
    rw [List.all_cons, Bool.and_eq_true] at f
    rw [e, Rep.toV f.1 h1, RepL.toV f.2 h2]
    rfl
theorem flat_toV {d : D} (f : d.lf = true) : flatV d.toV = true := by
  cases d <;> first | rfl | cases f
theorem eqV_toV {x y : D} (f : x.lf = true) (f2 : y.lf = true) : eqV x.toV y.toV = eqD x y := by
  cases x <;> first | (cases f; done) | (cases y <;> first | rfl | (cases f2; done))
theorem inV_toV {x : D} (f : x.lf = true) : ∀ {ds : List D}, ds.all D.lf = true → inV x.toV (ds.map D.toV) = ds.any fun z => eqD z x
  | [], _ => rfl
  | d :: ds, h => by
    rw [List.all_cons, Bool.and_eq_true] at h
    have ih := inV_toV f h.2
    unfold inV at ih ⊢
    rw [List.map_cons, List.any_cons, List.any_cons, ih, eqV_toV h.1 f]
theorem all_flat : ∀ {ds : List D}, ds.all D.lf = true → (ds.map D.toV).all flatV = true
  | [], _ => rfl
  | d :: ds, h => by
    rw [List.all_cons, Bool.and_eq_true] at h
    rw [List.map_cons, List.all_cons, flat_toV h.1, all_flat h.2]
    rfl
/-- x in a list or tuple of flat values -/
theorem sc_inF (h : SB X W ρ e fun n x => SB X W (ρ.to n) e2 fun m y => ∃ ds, (y = .lst ds ∨ y = .tup ds) ∧ x.lf = true ∧ ds.all D.lf = true ∧ K m (ds.any fun z => eqD z x)) : SC X W ρ .In e e2 K :=
  ⟨_, op_in_seq, h.imp fun _ x h => h.imp fun _ _ ⟨ds, ey, o1, o2, k⟩ => by
    intro σ H vx vy Q r px py f
    rcases ey with ey | ey
    · subst ey
      obtain ⟨a, vs, e1, _, q, rl⟩ := py
      have ev := rl.toV o2
      subst ev
      refine ⟨a, _, e1, .inl (.of q), by rw [px.toV o1]; exact flat_toV o1, all_flat o2, ?_⟩
      rw [px.toV o1, inV_toV o1 o2]
      exact f.now r (d := .bl _) rfl ⟨_, rfl, k⟩
    · subst ey
      obtain ⟨a, vs, e1, q, rl⟩ := py
      have ev := rl.toV o2
      subst ev
      refine ⟨a, _, e1, .inr q, by rw [px.toV o1]; exact flat_toV o1, all_flat o2, ?_⟩
      rw [px.toV o1, inV_toV o1 o2]
      exact f.now r (d := .bl _) rfl ⟨_, rfl, k⟩⟩
theorem sc_notinF (h : SB X W ρ e fun n x => SB X W (ρ.to n) e2 fun m y => ∃ ds, (y = .lst ds ∨ y = .tup ds) ∧ x.lf = true ∧ ds.all D.lf = true ∧ K m (!ds.any fun z => eqD z x)) : SC X W ρ .NotIn e e2 K :=
  ⟨_, op_notIn_seq, h.imp fun _ x h => h.imp fun _ _ ⟨ds, ey, o1, o2, k⟩ => by
    intro σ H vx vy Q r px py f
    rcases ey with ey | ey
    · subst ey
      obtain ⟨a, vs, e1, _, q, rl⟩ := py
      have ev := rl.toV o2
      subst ev
      refine ⟨a, _, e1, .inl (.of q), by rw [px.toV o1]; exact flat_toV o1, all_flat o2, ?_⟩
      rw [px.toV o1, inV_toV o1 o2]
      exact f.now r (d := .bl _) rfl ⟨_, rfl, k⟩
    · subst ey
      obtain ⟨a, vs, e1, q, rl⟩ := py
      have ev := rl.toV o2
      subst ev
      refine ⟨a, _, e1, .inr q, by rw [px.toV o1]; exact flat_toV o1, all_flat o2, ?_⟩
      rw [px.toV o1, inV_toV o1 o2]
      exact f.now r (d := .bl _) rfl ⟨_, rfl, k⟩⟩
/-- one sign in a text -/
theorem sc_inS (h : SB X W ρ e fun n x => SB X W (ρ.to n) e2 fun m y => ∃ (c : Nat) (z : Str), x = .str ⟨#[c]⟩ ∧ y = .str z ∧ K m (decide (c ∈ z.cps.toList))) : SC X W ρ .In e e2 K :=
  ⟨_, op_in_sign, h.imp fun _ x h => h.imp fun _ _ ⟨c, z, e1, e2, k⟩ => by
    subst e1 e2
    exact fun σ H vx vy Q r px py f => ⟨c, z, px, py, f.now r (d := .bl _) rfl ⟨_, rfl, k⟩⟩⟩
end

/-! ### a op b op c, ints -/
theorem chain_read {op op' : CmpOp} {c : Expr} {q q' : Int → Int → Bool} {σ : L2.St} {H : Hp} {Q : VK} (re : RE X.K X.w W H σ ρ)
    (h : SB X W ρ e fun n x => SB X W (ρ.to n) e2 fun m y => ∃ i j, x = .int i ∧ y = .int j ∧ (if q i j = true then SB X W (ρ.to m) c fun l z => ∃ k, z = .int k ∧ K l (.bl (q' j k)) else K m (.bl false))) (f : Fol X W ρ σ H K Q) :
    tChain (rI0 fun i j => .bl (q i j)) (rI0 fun i j => .bl (q' i j)) (tXB X W ρ e) (tXB X W ρ e2) (tXB X W ρ c) σ H Q :=
  ⟨ρ.n, re, _, h, fun v H1 n d s1 r1 p1 h1 => ⟨n, r1, _, h1, fun v2 H2 m y s2 r2 p2 ⟨i, j, e1, e2, h2⟩ => by
    subst e1 e2
    refine ⟨i, j, p1, p2, q i j, rfl, ?_⟩
    cases hq : q i j with
    | true =>
      rw [hq, if_pos rfl] at h2
      rw [if_pos rfl]
      exact ⟨m, r2, _, h2, fun v3 H3 l z s3 r3 p3 ⟨k, e3, h3⟩ => by
        subst e3
        exact ⟨j, k, p2, p3, f _ H3 l (.bl (q' j k)) ((s1.trans s2).trans s3) r3 rfl h3⟩⟩
    | false =>
      rw [hq, if_neg Bool.false_ne_true] at h2
      rw [if_neg Bool.false_ne_true]
      exact f _ H2 m (.bl false) (s1.trans s2) r2 rfl h2⟩⟩
theorem se_chainLL {c : Expr} (h : SB X W ρ e fun n x => SB X W (ρ.to n) e2 fun m y => ∃ i j, x = .int i ∧ y = .int j ∧ (if decide (i ≤ j) = true then SB X W (ρ.to m) c fun l z => ∃ k, z = .int k ∧ K l (.bl (decide (j ≤ k))) else K m (.bl false)))
    (hm : lastMarks [CmpOp.LtE, CmpOp.LtE] [e2, c] = false := by with_unfolding_all rfl) : SE X W ρ (.Compare e [.LtE, .LtE] [e2, c] pos) K :=
  SE.of (pe_chain op_le op_le (pe_XB (W := W) (ρ := ρ)) (pe_XB (W := W) (ρ := ρ)) (pe_XB (W := W) (ρ := ρ)) hm) fun σ H Q re f => chain_read (op := .LtE) (op' := .LtE) re h f
theorem st_chainLL {c : Expr} {K : Nat → Bool → Prop} (h : SB X W ρ e fun n x => SB X W (ρ.to n) e2 fun m y => ∃ i j, x = .int i ∧ y = .int j ∧ (if decide (i ≤ j) = true then SB X W (ρ.to m) c fun l z => ∃ k, z = .int k ∧ K l (decide (j ≤ k)) else K m false))
    (hm : lastMarks [CmpOp.LtE, CmpOp.LtE] [e2, c] = false := by with_unfolding_all rfl) : STt X W ρ (.Compare e [.LtE, .LtE] [e2, c] pos) K :=
  STt.of (pt_chain op_le op_le (pe_XB (W := W) (ρ := ρ)) (pe_XB (W := W) (ρ := ρ)) (pe_XB (W := W) (ρ := ρ)) hm) fun σ H Q re f => by
    refine chain_read (K := fun n d => ∃ k, d = .bl k ∧ K n k) (op := .LtE) (op' := .LtE) re ?_ fun v H' n d s1 r1 p1 ⟨k, e, hk⟩ => ?_
    · refine h.imp fun n x h => h.imp fun m y ⟨i, j, e1, e2, h⟩ => ⟨i, j, e1, e2, ?_⟩
      cases hq : decide (i ≤ j) with
      | true =>
        rw [hq, if_pos rfl] at h
        rw [if_pos rfl]
        exact h.imp fun l z ⟨k, e3, h3⟩ => ⟨k, e3, _, rfl, h3⟩
      | false =>
        rw [hq, if_neg Bool.false_ne_true] at h
        rw [if_neg Bool.false_ne_true]
        exact ⟨_, rfl, h⟩
    · subst e
      exact ⟨k, p1, f k H' n s1 r1 hk⟩
end
end Sk
set_option maxHeartbeats 4000000
/-! S10: dicts with explicit entries: keys by value, or tuples. -/
namespace Sk
open PySem PySem.Spec PyProof.Rows L2

/-! ### at the model's level -/
/-- the entries es have the keys ks -/
def EntK (w : World) (h : Heap) (k : NestedKey) (e : DictEntry) : Prop := e.hash = k.hash w ∧ NestedIs h k e.key
def isLeafK : NestedKey → Bool
  | .tup _ => false
  | _ => true
structure KeysAre (w : World) (h : Heap) (ks : List NestedKey) (es : Array DictEntry) : Prop where
  each : Paired (EntK w h) ks es.toList
  nd : ks.Nodup
  dp : ∀ k ∈ ks, k.depth ≤ 8
  kind : (∀ k ∈ ks, isLeafK k = true) ∨ (∀ k ∈ ks, isLeafK k = false)
def at? (ks : List NestedKey) (k : NestedKey) : Option Nat := ks.findIdx? fun x => decide (x = k)
def toLeaf : NestedKey → Leaf
  | .num i => .num i
  | .text x => .text x
  | _ => .none
theorem toLeaf_key {k : NestedKey} (h : isLeafK k = true) : (toLeaf k).key = k := by
  cases k <;> first | rfl | cases h
theorem leaf_of {h : Heap} {k : NestedKey} {v : Value} (hl : isLeafK k = true) (n : NestedIs h k v) : Leaf.isOf (toLeaf k) v = true := by
  cases n with
  | none => rfl
  | bool e =>
    subst e
    exact decide_eq_true rfl
  | int i t => exact decide_eq_true rfl
  | text x t =>
    show Value.isStrOf x (.str x t) = true
    simp [Value.isStrOf]
  | tup => cases hl
theorem ref_of {h : Heap} {k : NestedKey} {v : Value} (hl : isLeafK k = false) (n : NestedIs h k v) : ∃ a, v = .ref a := by
  cases n with
  | tup => exact ⟨_, rfl⟩
  | none => cases hl
  | bool => cases hl
  | int => cases hl
  | text => cases hl
section
variable {prog : Program} {w : World} {A : Around} {E : Value → Shared → Prop} {s : Shared} {d : Addr} {o : Obj} {es : Array DictEntry} {ep : Nat} {ks : List NestedKey} {k : NestedKey} {key : Value}
theorem paired_idx {h : Heap} : ∀ {ks : List NestedKey} {l : List DictEntry}, Paired (EntK w h) ks l → (∀ k ∈ ks, isLeafK k = true) → isLeafK k = true → (l.findIdx? fun e => (leafKind prog w).is (toLeaf k) e.key) = at? ks k
  | _, _, .nil, _, _ => rfl
  | x :: ks, e :: l, .cons r t, hl, hk => by
    have ih := paired_idx t (fun y hy => hl y (List.mem_cons_of_mem _ hy)) hk
    have hx := hl x List.mem_cons_self
    have h1 : (leafKind prog w).is (toLeaf x) e.key = true := leaf_of hx r.2
    have h2 : (leafKind prog w).is (toLeaf k) e.key = decide (x = k) := by
      rw [KeyKind.is_eq_decide h1]
      by_cases q : x = k
      · subst q
        rw [decide_eq_true rfl, decide_eq_true rfl]
      · rw [decide_eq_false q, decide_eq_false fun z => q ?_]
        rw [← toLeaf_key hx, ← toLeaf_key hk, z]
    unfold at? at ih ⊢
    rw [List.findIdx?_cons, List.findIdx?_cons, h2, ih]
theorem paired_get {α β : Type} {R : α → β → Prop} : ∀ {l : List α} {m : List β} {i : Nat} {a : α}, Paired R l m → l[i]? = some a → ∃ b, m[i]? = some b ∧ R a b
  | a :: l, b :: m, 0, a', .cons r t, h => by
    have e : a = a' := Option.some.inj h
    subst e
    exact ⟨b, rfl, r⟩
  | a :: l, b :: m, i + 1, a', .cons r t, h => paired_get (i := i) t h
theorem paired_len {α β : Type} {R : α → β → Prop} {l : List α} {m : List β} (h : Paired R l m) : l.length = m.length := Paired.length h
/-- the entries as the heap kind has them -/
def keyAddr : Value → Addr
  | .ref a => a
  | _ => 0
def asH (ks : List NestedKey) (l : List DictEntry) : List (NestedKey × Addr × Value) := (ks.zip l).map fun p => (p.1, keyAddr p.2.key, p.2.val)
theorem asH_spec {h : Heap} : ∀ {ks : List NestedKey} {l : List DictEntry}, Paired (EntK w h) ks l → (∀ k ∈ ks, isLeafK k = false) → (∀ k ∈ ks, k.depth ≤ 8) → l = (asH ks l).map (entryOfKey (nestedKind prog w)) ∧ (asH ks l).map (·.1) = ks ∧ ∀ x ∈ asH ks l, (nestedKind prog w).is h x.1 x.2.1
  | _, _, .nil, _, _ => ⟨rfl, rfl, fun _ hx => nomatch hx⟩
  | x :: ks, e :: l, .cons r t, hl, hd => by
    obtain ⟨h1, h2, h3⟩ := asH_spec t (fun y hy => hl y (List.mem_cons_of_mem _ hy)) (fun y hy => hd y (List.mem_cons_of_mem _ hy))
    obtain ⟨a, ea⟩ := ref_of (hl x List.mem_cons_self) r.2
    have ee : entryOfKey (nestedKind prog w) (x, keyAddr e.key, e.val) = e := by
      obtain ⟨eh, ek, ev⟩ := e
      have e1 : eh = x.hash w := r.1
      have e2 : ek = .ref a := ea
      subst e1 e2
      rfl
    refine ⟨?_, ?_, fun y hy => ?_⟩
    · show e :: l = entryOfKey (nestedKind prog w) (x, keyAddr e.key, e.val) :: (asH ks l).map (entryOfKey (nestedKind prog w))
      rw [ee, ← h1]
    · show x :: (asH ks l).map (·.1) = x :: ks
      rw [h2]
    · rcases List.mem_cons.mp hy with z | z
      · subst z
        refine ⟨?_, hd x List.mem_cons_self⟩
        have r2 := r.2
        rw [ea] at r2
        show NestedIs h x (.ref (keyAddr e.key))
        rw [ea]
        exact r2
      · exact h3 y z
theorem idx_some {α : Type} [DecidableEq α] : ∀ {l : List α} {j : Nat} {x : α}, l.Nodup → l[j]? = some x → (l.findIdx? fun y => decide (y = x)) = some j
  | a :: l, 0, x, nd, h => by
    have e : a = x := Option.some.inj h
    subst e
    rw [List.findIdx?_cons, decide_eq_true rfl]
    rfl
  | a :: l, j + 1, x, nd, h => by
    have h' : l[j]? = some x := h
    have ne : ¬ a = x := fun z => (List.nodup_cons.mp nd).1 (z ▸ List.mem_of_getElem? h')
    rw [List.findIdx?_cons, decide_eq_false ne, idx_some (List.nodup_cons.mp nd).2 h']
    rfl
theorem idx_none {α : Type} [DecidableEq α] {l : List α} {x : α} (h : ∀ (j : Nat), l[j]? ≠ some x) : (l.findIdx? fun y => decide (y = x)) = none := by
  rw [List.findIdx?_eq_none_iff]
  intro y hy
  refine decide_eq_false fun z => ?_
  obtain ⟨j, hj⟩ := List.mem_iff_getElem?.mp hy
  exact h j (z ▸ hj)
theorem asH_get {l : List DictEntry} {j : Nat} {p : NestedKey × Addr × Value} (h : (asH ks l)[j]? = some p) : ks[j]? = some p.1 := by
  unfold asH at h
  rw [List.getElem?_map] at h
  cases e : (ks.zip l)[j]? with
  | none => rw [e] at h; cases h
  | some q =>
    rw [e] at h
    have e' : (q.1, keyAddr q.2.key, q.2.val) = p := Option.some.inj h
    subst e'
    exact (List.getElem?_zip_eq_some.mp e).1
/-- where a key stands -/
theorem raw_find (ho : s.heap.get? d = some o) (hd : o.data = .dict es ep) (hk : KeysAre w s.heap ks es) (n : NestedIs s.heap k key) (dk : k.depth ≤ 8) (same : ks = [] ∨ ∀ x ∈ ks, isLeafK x = isLeafK k) (hu : A.units + 8 < cLine) {Q : Option Nat → Shared → Prop} (h : Q (at? ks k) s) :
    wpAny (model prog w) A (dictFind d key (k.hash w)) Q E s := by
  cases hl : isLeafK k with
  | true =>
    have al : ∀ x ∈ ks, isLeafK x = true := fun x hx => by
      rcases same with z | z
      · rw [z] at hx
        cases hx
      · rw [z x hx, hl]
    have hkey : (leafKind prog w).is (toLeaf k) key = true := leaf_of hl n
    have hh : (leafKind prog w).hash (toLeaf k) = k.hash w := congrArg (NestedKey.hash w) (toLeaf_key hl)
    rw [← hh]
    refine wpAny_dictFind_of hkey ho hd (fun e he => ?_) ?_
    · obtain ⟨i, hi⟩ := List.mem_iff_getElem?.mp (Array.mem_toList_iff.mpr he)
      have il : i < ks.length := by rw [paired_len hk.each]; exact (List.getElem?_eq_some_iff.mp hi).1
      obtain ⟨e', he', r⟩ := paired_get hk.each (List.getElem?_eq_getElem il)
      rw [hi] at he'
      cases he'
      refine ⟨toLeaf ks[i], leaf_of (al _ (List.getElem_mem il)) r.2, ?_⟩
      rw [r.1]
      exact (congrArg (NestedKey.hash w) (toLeaf_key (al _ (List.getElem_mem il)))).symm
    · have e1 := paired_idx (prog := prog) hk.each al hl
      have e2 : (es.findIdx? fun e => (leafKind prog w).is (toLeaf k) e.key) = at? ks k := by
        rw [← e1]
        obtain ⟨l⟩ := es
        simp
      rw [e2]
      exact h
  | false =>
    have al : ∀ x ∈ ks, isLeafK x = false := fun x hx => by
      rcases same with z | z
      · rw [z] at hx
        cases hx
      · rw [z x hx, hl]
    obtain ⟨a, ea⟩ := ref_of hl n
    subst ea
    obtain ⟨h1, h2, h3⟩ := asH_spec (prog := prog) hk.each al hk.dp
    refine wpAny_dictFind_heap (knd := nestedKind prog w) (xs := asH ks es.toList) hu ⟨n, dk⟩ ho hd h1 h3 (by rw [h2]; exact hk.nd) (fun hn => ?_) (fun j p hj => ?_)
    · have e : at? ks k = none := idx_none fun j hj => by
        have hm : ((asH ks es.toList).map (·.1))[j]? = some k := by rw [h2]; exact hj
        rw [List.getElem?_map] at hm
        cases q : (asH ks es.toList)[j]? with
        | none => rw [q] at hm; cases hm
        | some y =>
          rw [q] at hm
          have e3 : y.1 = k := Option.some.inj hm
          exact hn j y.2 (by rw [q, ← e3])
      rw [e] at h
      exact h
    · have e : at? ks k = some j := idx_some hk.nd (asH_get hj)
      rw [e] at h
      exact h
/-- what a key leads to -/
theorem raw_get (ho : s.heap.get? d = some o) (hd : o.data = .dict es ep) (hk : KeysAre w s.heap ks es) (n : NestedIs s.heap k key) (dk : k.depth ≤ 8) (same : ks = [] ∨ ∀ x ∈ ks, isLeafK x = isLeafK k) (hu : A.units + 8 < cLine) {Q : Option Value → Shared → Prop}
    (h : ∀ tk, Q ((at? ks k).bind fun i => es[i]?.map (·.val)) { s with toks := tk }) : wpAny (model prog w) A (dictGet d key) Q E s := by
  unfold dictGet
  try with_reducible refine wpAny_holding ?_
  refine wpAny_bind (pyHash_key k key A s _ n (by omega) (wpAny_bind (raw_find (s := { s with toks := s.toks + k.draws }) ho hd hk n dk same hu ?_)))
  have h' := h (s.toks + k.draws)
  cases e : at? ks k with
  | none =>
    rw [e] at h'
    exact wpAny_pure h'
  | some i =>
    rw [e] at h'
    exact wpAny_bind (wpAny_dictEntries (s := { s with toks := s.toks + k.draws }) ho hd (wpAny_pure h'))
/-- the entries behind a store -/
def putE (w : World) (ks : List NestedKey) (k : NestedKey) (key v : Value) (es : Array DictEntry) : Array DictEntry :=
  match at? ks k with
  | some i => es.modify i fun e => { e with val := v }
  | none => es.push ⟨k.hash w, key, v⟩
theorem raw_set (ho : s.heap.get? d = some o) (hx : o.ExactDict) (hd : o.data = .dict es ep) (hk : KeysAre w s.heap ks es) (n : NestedIs s.heap k key) (dk : k.depth ≤ 8) (same : ks = [] ∨ ∀ x ∈ ks, isLeafK x = isLeafK k) (hu : A.units + 8 < cLine) (hz : es.size ≤ sizeLine) {v : Value} {Q : Unit → Shared → Prop}
    (h : ∀ h' tk o' ep', h'.get? d = some o' → o'.ExactDict → o'.data = .dict (putE w ks k key v es) ep' → Heap.SameBut d s.heap h' → Q () { s with heap := h', toks := tk }) : wpAny (model prog w) A (dictSet d key v) Q E s := by
  unfold dictSet
  try with_reducible refine wpAny_holding ?_
  refine wpAny_bind (pyHash_key k key A s _ n (by omega) ?_)
  unfold dictSetHashed
  try with_reducible refine wpAny_holding ?_
  refine wpAny_bind (raw_find (s := { s with toks := s.toks + k.draws }) ho hd hk n dk same hu ?_)
  unfold putE at h
  cases e : at? ks k with
  | some i =>
    rw [e] at h
    exact wpAny_bind (wpAny_rule (wpAny_bind (wpAny_updateDict (s := { s with toks := s.toks + k.draws }) ho hd (wpAny_point (h _ _ _ ep (Heap.get?_update_self _ ho (Obj.isFreed_of_dict (Obj.data_mapDict hd _))) (hx.mapDict _) (Obj.data_mapDict hd _) (Heap.SameBut.update ..))))))
  | none =>
    rw [e] at h
    exact wpAny_bind (wpAny_rule (wpAny_updateDictKeys (hz := hz) (s := { s with toks := s.toks + k.draws }) ho hd (h _ _ _ (ep + 1) (Heap.get?_update_self _ ho (Obj.isFreed_of_dict (Obj.data_mapDictKeys hd _))) (hx.mapDictKeys _) (Obj.data_mapDictKeys hd _) (Heap.SameBut.update ..))))
end
end Sk
set_option maxHeartbeats 4000000
/-! S11: dicts told of data. -/
namespace Sk
open PySem PySem.Spec PyProof.Rows L2

mutual
theorem Rep.nested {X : Cx} {pins : List (Addr × Obj)} {σ : L2.St} {H : Hp} {s : Shared} {g : G} {F : Addr → Prop} (I : Inv X pins σ H s) : ∀ (d : D) (v : V) (u : Value), d.isK = true → Rep X.K X.w g H F d v → RelV v u → NestedIs s.heap d.nk u
  | .non, v, u, _, h, r => by
    have e : v = .non := h
    subst e
    cases r
    exact .none
  | .int i, v, u, _, h, r => by
    have e : v = .int i := h
    subst e
    obtain ⟨t, rfl⟩ := r
    exact .int i t
  | .str x, v, u, _, h, r => by
    have e : v = .str x := h
    subst e
    obtain ⟨t, rfl⟩ := r
    exact .text x t
  | .tup ds, v, u, hk, ⟨a, vs, e, q, rl⟩, r => by
    subst e
    cases r
    obtain ⟨its, rv, ⟨o, e1, e2, n, e3⟩, _⟩ := I.tuple q
    exact .tup e1 e2 e3 (RepL.nested I ds vs its hk rl rv)
  | .bl _, v, u, hk, _, _ => by cases hk
  | .lst _, v, u, hk, _, _ => by cases hk
  | .dct _ _, v, u, hk, _, _ => by cases hk
  | .obj _ _ _, v, u, hk, _, _ => by cases hk
  | .src, v, u, hk, _, _ => by cases hk
  | .scr _, v, u, hk, _, _ => by cases hk
  | .pin _ _, v, u, hk, _, _ => by cases hk
  | .adr _, v, u, hk, _, _ => by cases hk
theorem RepL.nested {X : Cx} {pins : List (Addr × Obj)} {σ : L2.St} {H : Hp} {s : Shared} {g : G} {F : Addr → Prop} (I : Inv X pins σ H s) : ∀ (ds : List D) (vs : List V) (us : List Value), isKL ds = true → RepL X.K X.w g H F ds vs → Vals vs us → NestedAll s.heap (nkL ds) us
  | [], vs, us, _, h, r => by
    have e : vs = [] := h
    subst e
    cases r
    exact .nil
  | d :: ds, vs, us, hk, ⟨v, r, e, h1, h2⟩, rv => by
    subst e
    have hk' : (d.isK && isKL ds) = true := hk
    rw [Bool.and_eq_true] at hk'
    cases rv with
    | cons r1 r2 => exact .cons (Rep.nested I d v _ hk'.1 h1 r1) (RepL.nested I ds r _ hk'.2 h2 r2)
end
theorem leafK_nk {d : D} (h : d.isK = true) : isLeafK d.nk = d.leaf := by
  cases d <;> first | rfl | cases h
/-- what stands under a key -/
def dget (ks ds : List D) (k : D) : Option D := (at? (ks.map D.nk) k.nk).bind fun i => ds[i]?
def dputK (ks : List D) (k : D) : List D := match at? (ks.map D.nk) k.nk with
  | some _ => ks
  | none => ks ++ [k]
def dputV (ks ds : List D) (k v : D) : List D := match at? (ks.map D.nk) k.nk with
  | some i => ds.set i v
  | none => ds ++ [v]
/-- a key that fits -/
structure KOk (ks : List D) (k : D) : Prop where
  key : k.isK = true
  dp : k.nk.depth ≤ 8
  same : ks = [] ∨ ∀ x ∈ ks, x.leaf = k.leaf
theorem at_lt {ks : List NestedKey} {k : NestedKey} {i : Nat} (h : at? ks k = some i) : i < ks.length ∧ ks[i]? = some k := by
  unfold at? at h
  obtain ⟨hl, h1, _⟩ := List.findIdx?_eq_some_iff_getElem.mp h
  exact ⟨hl, by rw [List.getElem?_eq_getElem hl, of_decide_eq_true h1]⟩
theorem at_none {ks : List NestedKey} {k : NestedKey} (h : at? ks k = none) : k ∉ ks := fun hm => by
  unfold at? at h
  have := List.findIdx?_eq_none_iff.mp h k hm
  simp at this
theorem DKeys.put {ks : List D} {k : D} (h : DKeys ks) (hk : KOk ks k) : DKeys (dputK ks k) := by
  unfold dputK
  cases e : at? (ks.map D.nk) k.nk with
  | some i => exact h
  | none =>
    refine ⟨fun x hx => ?_, ?_, ?_⟩
    · rcases List.mem_append.mp hx with z | z
      · exact h.key x z
      · have z' : x = k := by simpa using z
        subst z'
        exact ⟨hk.key, hk.dp⟩
    · rw [List.map_append, List.nodup_append]
      refine ⟨h.nd, by simp, fun x hx y hy => ?_⟩
      have hy' : y = k.nk := by simpa using hy
      subst hy'
      exact fun z => at_none e (z ▸ hx)
    · have al : ∀ x ∈ ks, x.leaf = k.leaf := fun x hx => by
        rcases hk.same with z | z
        · rw [z] at hx
          cases hx
        · exact z x hx
      cases hl : k.leaf with
      | true =>
        refine .inl fun x hx => ?_
        rcases List.mem_append.mp hx with z | z
        · rw [al x z, hl]
        · have z' : x = k := by simpa using z
          rw [z', hl]
      | false =>
        refine .inr fun x hx => ?_
        rcases List.mem_append.mp hx with z | z
        · rw [al x z, hl]
        · have z' : x = k := by simpa using z
          rw [z', hl]
theorem dput_len {ks ds : List D} {k v : D} (h : ks.length = ds.length) : (dputK ks k).length = (dputV ks ds k v).length := by
  unfold dputK dputV
  cases at? (ks.map D.nk) k.nk with
  | some i => simp [h]
  | none => simp [h]
section
variable {X : Cx} {pins : List (Addr × Obj)} {σ : L2.St} {H : Hp} {s : Shared} {g : G} {F : Addr → Prop}
theorem paired_ents {w : World} {h : Heap} : ∀ {ks : List D} {kv vs : List V} {l : List DictEntry}, ks.length = kv.length → ks.length = vs.length → Paired EntIs (entL w ks kv vs) l → l.length = ks.length ∧ ∀ (i : Nat) (e : DictEntry), l[i]? = some e → ∃ k x y, ks[i]? = some k ∧ kv[i]? = some x ∧ vs[i]? = some y ∧ e.hash = k.nk.hash w ∧ RelV x e.key ∧ RelV y e.val
  | [], kv, vs, l, h1, h2, h => by
    have : l = [] := by
      cases h
      rfl
    subst this
    exact ⟨rfl, fun i e he => by cases he⟩
  | k :: ks, [], vs, l, h1, h2, h => by cases h1
  | k :: ks, x :: kv, [], l, h1, h2, h => by cases h2
  | k :: ks, x :: kv, y :: vs, l, h1, h2, h => by
    cases h with
    | cons r t =>
      obtain ⟨ih1, ih2⟩ := paired_ents (h := h) (Nat.succ.inj h1) (Nat.succ.inj h2) t
      refine ⟨by rw [List.length_cons, List.length_cons, ih1], fun i e he => ?_⟩
      cases i with
      | zero =>
        cases he
        exact ⟨k, x, y, rfl, rfl, rfl, r⟩
      | succ i => exact ih2 i e he
theorem paired_of {α β : Type} {R : α → β → Prop} : ∀ {l : List α} {m : List β}, l.length = m.length → (∀ (i : Nat) (a : α) (b : β), l[i]? = some a → m[i]? = some b → R a b) → Paired R l m
  | [], [], _, _ => .nil
  | a :: l, b :: m, h, f => .cons (f 0 a b rfl rfl) (paired_of (Nat.succ.inj h) fun i x y h1 h2 => f (i + 1) x y h1 h2)
structure DOpen (X : Cx) (H : Hp) (s : Shared) (g : G) (F : Addr → Prop) (ks ds : List D) (a : Addr) (kv : Obj × List V) (vs : List V) (o : Obj) (es : Array DictEntry) (ep : Nat) : Prop where
  same : o = kv.1
  at_ : H a = some (dO a (ents X.w ks kv vs))
  sys : (a == sysModules) = false
  get : s.heap.get? a = some o
  ex : o.ExactDict
  dat : o.data = .dict es ep
  size : es.size = ks.length
  small : ks.length ≤ sizeLine
  keys : KeysAre X.w s.heap (ks.map D.nk) es
  val : ∀ (i : Nat) (e : DictEntry), es[i]? = some e → ∃ x y, kv.2[i]? = some x ∧ vs[i]? = some y ∧ RelV x e.key ∧ RelV y e.val
  rk : RepL X.K X.w g H F ks kv.2
  rv : RepL X.K X.w g H F ds vs
theorem dopen (I : Inv X pins σ H s) {ks ds : List D} {a : Addr} {kv : Obj × List V} {vs : List V} (e : H a = some (dO a (ents X.w ks kv vs))) (rk : RepL X.K X.w g H F ks kv.2) (rv : RepL X.K X.w g H F ds vs) (dk : DKeys ks) (hl : ks.length = ds.length) : ∃ o es ep, DOpen X H s g F ks ds a kv vs o es ep := by
  obtain ⟨⟨hs, hz, h1, h2, es, ep, h3, h4⟩, _⟩ := (show ObjOk X.prog X.w H s.heap a (dO a (ents X.w ks kv vs)) from I.hok a _ e)
  have h4 : Paired EntIs (entL X.w ks kv.2 vs) es.toList := h4
  have hz : (entL X.w ks kv.2 vs).length ≤ sizeLine := hz
  have l1 := rk.length
  have l2 : ks.length = vs.length := hl.trans rv.length
  obtain ⟨p1, p2⟩ := paired_ents (h := s.heap) l1 l2 h4
  have p2' : ∀ (i : Nat) (e : DictEntry), es[i]? = some e → ∃ k x y, ks[i]? = some k ∧ kv.2[i]? = some x ∧ vs[i]? = some y ∧ e.hash = k.nk.hash X.w ∧ RelV x e.key ∧ RelV y e.val := fun i e he => p2 i e (by rw [Array.getElem?_toList]; exact he)
  have sz : es.size = ks.length := by rw [← p1, Array.length_toList]
  refine ⟨kv.1, es, ep, rfl, e, hs, h1, h2, h3, sz, ?_, ⟨?_, dk.nd, fun k hk => ?_, ?_⟩, fun i e he => ?_, rk, rv⟩
  · have : (entL X.w ks kv.2 vs).length = ks.length := by
      unfold entL
      rw [List.length_zip, List.length_zip, List.length_map]
      omega
    omega
  · refine paired_of (by rw [List.length_map, p1]) fun i k e hk he => ?_
    rw [Array.getElem?_toList] at he
    obtain ⟨k', x, y, hk', hx, hy, q1, q2, q3⟩ := p2' i e he
    rw [List.getElem?_map, hk'] at hk
    cases hk
    obtain ⟨v, hv, hr⟩ := rk.get hk'
    rw [hx] at hv
    cases hv
    exact ⟨q1, Rep.nested I k' x e.key (dk.key k' (List.mem_of_getElem? hk')).1 hr q2⟩
  · obtain ⟨d, hd, rfl⟩ := List.mem_map.mp hk
    exact (dk.key d hd).2
  · rcases dk.kind with z | z
    · refine .inl fun k hk => ?_
      obtain ⟨d, hd, rfl⟩ := List.mem_map.mp hk
      rw [leafK_nk (dk.key d hd).1]
      exact z d hd
    · refine .inr fun k hk => ?_
      obtain ⟨d, hd, rfl⟩ := List.mem_map.mp hk
      rw [leafK_nk (dk.key d hd).1]
      exact z d hd
  · obtain ⟨k', x, y, hk', hx, hy, q1, q2, q3⟩ := p2' i e he
    exact ⟨x, y, hx, hy, q2, q3⟩
theorem KOk.raw {ks : List D} {k : D} (h : KOk ks k) (dk : DKeys ks) : ks.map D.nk = [] ∨ ∀ x ∈ ks.map D.nk, isLeafK x = isLeafK k.nk := by
  rcases h.same with z | z
  · exact .inl (by rw [z]; rfl)
  · refine .inr fun x hx => ?_
    obtain ⟨d, hd, rfl⟩ := List.mem_map.mp hx
    rw [leafK_nk (dk.key d hd).1, leafK_nk h.key]
    exact z d hd
/-- the value of an entry -/
theorem DOpen.value {ks ds : List D} {a : Addr} {kv : Obj × List V} {vs : List V} {o : Obj} {es : Array DictEntry} {ep : Nat} (O : DOpen X H s g F ks ds a kv vs o es ep) (hl : ks.length = ds.length) {k : D} :
    match dget ks ds k with
    | none => ((at? (ks.map D.nk) k.nk).bind fun i => es[i]?.map (·.val)) = none
    | some d => ∃ u v, ((at? (ks.map D.nk) k.nk).bind fun i => es[i]?.map (·.val)) = some u ∧ RelV v u ∧ Rep X.K X.w g H F d v := by
  unfold dget
  cases e : at? (ks.map D.nk) k.nk with
  | none => rfl
  | some i =>
    obtain ⟨hi, _⟩ := at_lt e
    rw [List.length_map] at hi
    have hd : i < ds.length := by omega
    have he : i < es.size := by rw [O.size]; exact hi
    show match ds[i]? with | none => _ | some d => _
    rw [List.getElem?_eq_getElem hd]
    obtain ⟨x, y, hx, hy, q1, q2⟩ := O.val i es[i] (Array.getElem?_eq_getElem he)
    obtain ⟨v, hv, hr⟩ := O.rv.get (List.getElem?_eq_getElem hd)
    rw [hy] at hv
    cases hv
    refine ⟨es[i].val, y, ?_, q2, hr⟩
    show (es[i]?).map (·.val) = some es[i].val
    rw [Array.getElem?_eq_getElem he]
    rfl
end
end Sk
set_option maxHeartbeats 4000000
/-! S12: what is done with dicts, told of data. -/
namespace Sk
open PySem PySem.Spec PyProof.Rows L2

section
variable {prog : Program} {w : World} {A : Around} {E : Value → Shared → Prop} {s : Shared} {d : Addr} {o : Obj} {es : Array DictEntry} {ep : Nat} {ks : List NestedKey} {k : NestedKey} {key : Value}
theorem dict_type (ho : s.heap.get? d = some o) (hx : o.ExactDict) : s.TypeIs (.ref d) "dict" := ⟨o, ho, hx.1⟩
theorem raw_getItem (ho : s.heap.get? d = some o) (hx : o.ExactDict) (hd : o.data = .dict es ep) (hk : KeysAre w s.heap ks es) (n : NestedIs s.heap k key) (dk : k.depth ≤ 8) (same : ks = [] ∨ ∀ x ∈ ks, isLeafK x = isLeafK k) (hu : A.units + 9 < cLine) {v : Value} {Q : Value → Shared → Prop}
    (hv : ((at? ks k).bind fun i => es[i]?.map (·.val)) = some v) (h : ∀ tk, Q v { s with toks := tk }) : wpAny (model prog w) A (getItem (.ref d) key) Q E s := by
  unfold getItem
  try with_reducible refine wpAny_holding ?_
  refine wpAny_bind (wpAny_sequenceKey (dict_type ho hx) (by decide) (wpAny_bind (wpAny_callSpecial?_slot (name := Str.ofString "__getitem__") (dict_type ho hx) PySem.F.slot_dict_getitem ?_)))
  refine wpAny_call_entry PySem.F.slot_dict_getitem (dict_type ho hx) PySem.F.entry_dict_getitem ?_ (PySem.F.args_dict_getitem_2 _ _)
  show wpAny _ _ (dictGet d key >>= _) _ _ s
  refine wpAny_bind (raw_get ho hd hk n dk same (by show A.units + 1 + 8 < cLine; omega) fun tk => ?_)
  rw [hv]
  exact wpAny_pure ⟨v, rfl, wpAny_pure (h tk)⟩
theorem raw_contains (ho : s.heap.get? d = some o) (hx : o.ExactDict) (hd : o.data = .dict es ep) (hs : (d == sysModules) = false) (hk : KeysAre w s.heap ks es) (n : NestedIs s.heap k key) (dk : k.depth ≤ 8) (same : ks = [] ∨ ∀ x ∈ ks, isLeafK x = isLeafK k) (hu : A.units + 9 < cLine) {Q : Bool → Shared → Prop}
    (h : ∀ tk, Q ((at? ks k).bind fun i => es[i]?.map (·.val)).isSome { s with toks := tk }) : wpAny (model prog w) A (contains (.ref d) key) Q E s := by
  have ty := dict_type ho hx
  refine wpAny_contains_slot ty PySem.F.slot_dict_contains ?_
  refine call_meetsIn PySem.F.slot_dict_contains ty PySem.F.entry_dict_contains (PySem.F.args_dict_contains_2 _ _) (S := fun A' R s' => A' = A ∧ s' = s ∧ ∀ tk, R (.ok (.ret (.bool ((at? ks k).bind fun i => es[i]?.map (·.val)).isSome))) { s with toks := tk }) (fun A' R s' hS => ?_) ⟨rfl, rfl, fun tk => wpAny_truthy_bool (h tk)⟩
  obtain ⟨rfl, rfl, hq⟩ := hS
  show wpAny _ _ (dictGet d key >>= _) _ _ _
  refine wpAny_bind (raw_get ho hd hk n dk same (by show A'.units + 1 + 8 < cLine; omega) fun tk => ?_)
  have hq' := hq tk
  cases hf : (at? ks k).bind fun i => es[i]?.map (·.val) with
  | some p =>
    rw [hf] at hq'
    show wpAny _ _ (ret (.bool true)) _ _ _
    exact wpAny_pure hq'
  | none =>
    rw [hf] at hq'
    show wpAny _ _ (Builtin.Dict.pendingKey? d key >>= _) _ _ _
    exact wpAny_bind (wpAny_pendingKey_other hs (wpAny_pure hq'))
theorem raw_setItem (ho : s.heap.get? d = some o) (hx : o.ExactDict) (hd : o.data = .dict es ep) (hk : KeysAre w s.heap ks es) (n : NestedIs s.heap k key) (dk : k.depth ≤ 8) (same : ks = [] ∨ ∀ x ∈ ks, isLeafK x = isLeafK k) (hu : A.units + 9 < cLine) (hz : es.size ≤ sizeLine) {v : Value} {Q : Unit → Shared → Prop}
    (h : ∀ h' tk o' ep', h'.get? d = some o' → o'.ExactDict → o'.data = .dict (putE w ks k key v es) ep' → Heap.SameBut d s.heap h' → Q () { s with heap := h', toks := tk }) : wpAny (model prog w) A (setItem (.ref d) key v) Q E s := by
  have ty := dict_type ho hx
  unfold setItem
  try with_reducible refine wpAny_holding ?_
  refine wpAny_bind (wpAny_sequenceKey ty (by decide) (wpAny_bind (wpAny_callSpecial?_slot (name := Str.ofString "__setitem__") ty PySem.F.slot_dict_setitem ?_)))
  refine wpAny_call_entry PySem.F.slot_dict_setitem ty PySem.F.entry_dict_setitem ?_ (PySem.F.args_dict_setitem_3 _ _ _)
  show wpAny _ _ (Builtin.Dict.notOrdered "__setitem__" ⟨[.ref d, key, v], []⟩ >>= _) _ _ s
  refine wpAny_bind (wpAny_notOrdered_dict ty ?_)
  show wpAny _ _ (dictSet d key v >>= _) _ _ s
  exact wpAny_bind (raw_set ho hx hd hk n dk same (by show A.units + 1 + 8 < cLine; omega) hz fun h' tk o' ep' h1 h2 h3 h4 => wpAny_pure ⟨.none, rfl, wpAny_pure (h h' tk o' ep' h1 h2 h3 h4)⟩)
theorem raw_get1 (ho : s.heap.get? d = some o) (hx : o.ExactDict) (hd : o.data = .dict es ep) (hs : (d == sysModules) = false) (hk : KeysAre w s.heap ks es) (n : NestedIs s.heap k key) (dk : k.depth ≤ 8) (same : ks = [] ∨ ∀ x ∈ ks, isLeafK x = isLeafK k) (hu : A.units + 9 < cLine) {Q : Value → Shared → Prop}
    (h : ∀ tk, Q (((at? ks k).bind fun i => es[i]?.map (·.val)).getD .none) { s with toks := tk }) : wpAny (model prog w) A (call (.builtin "dict.get") [.ref d, key]) Q E s := by
  have ty := dict_type ho hx
  refine call_meetsIn PySem.F.slot_dict_get ty PySem.F.entry_dict_get (PySem.F.args_dict_get_2 _ _) (S := fun A' R s' => A' = A ∧ s' = s ∧ ∀ tk, R (.ok (.ret (((at? ks k).bind fun i => es[i]?.map (·.val)).getD .none))) { s with toks := tk }) (.of_wp fun A' R s' hS => ?_) ⟨rfl, rfl, h⟩
  obtain ⟨rfl, rfl, hq⟩ := hS
  show wpAny _ _ (dictGet d key >>= _) _ _ _
  refine wpAny_bind (raw_get ho hd hk n dk same (by show A'.units + 1 + 8 < cLine; omega) fun tk => ?_)
  have hq' := hq tk
  cases hf : (at? ks k).bind fun i => es[i]?.map (·.val) with
  | some p =>
    rw [hf] at hq'
    exact wpAny_pure ⟨p, rfl, hq'⟩
  | none =>
    rw [hf] at hq'
    show wpAny _ _ (Builtin.Dict.missed d key >>= _) _ _ _
    exact wpAny_bind (wpAny_missed_other hs (wpAny_pure ⟨Value.none, rfl, hq'⟩))
theorem raw_get2 (ho : s.heap.get? d = some o) (hx : o.ExactDict) (hd : o.data = .dict es ep) (hs : (d == sysModules) = false) (hk : KeysAre w s.heap ks es) (n : NestedIs s.heap k key) (dk : k.depth ≤ 8) (same : ks = [] ∨ ∀ x ∈ ks, isLeafK x = isLeafK k) (hu : A.units + 9 < cLine) {x : Value} {Q : Value → Shared → Prop}
    (h : ∀ tk, Q (((at? ks k).bind fun i => es[i]?.map (·.val)).getD x) { s with toks := tk }) : wpAny (model prog w) A (call (.builtin "dict.get") [.ref d, key, x]) Q E s := by
  have ty := dict_type ho hx
  refine call_meetsIn PySem.F.slot_dict_get ty PySem.F.entry_dict_get (PySem.F.args_dict_get_3 _ _ _) (S := fun A' R s' => A' = A ∧ s' = s ∧ ∀ tk, R (.ok (.ret (((at? ks k).bind fun i => es[i]?.map (·.val)).getD x))) { s with toks := tk }) (.of_wp fun A' R s' hS => ?_) ⟨rfl, rfl, h⟩
  obtain ⟨rfl, rfl, hq⟩ := hS
  show wpAny _ _ (dictGet d key >>= _) _ _ _
  refine wpAny_bind (raw_get ho hd hk n dk same (by show A'.units + 1 + 8 < cLine; omega) fun tk => ?_)
  have hq' := hq tk
  cases hf : (at? ks k).bind fun i => es[i]?.map (·.val) with
  | some p =>
    rw [hf] at hq'
    exact wpAny_pure ⟨p, rfl, hq'⟩
  | none =>
    rw [hf] at hq'
    show wpAny _ _ (Builtin.Dict.missed d key >>= _) _ _ _
    exact wpAny_bind (wpAny_missed_other hs (wpAny_pure ⟨x, rfl, hq'⟩))
end

section
variable {X : Cx} {W : Fm} {ρ : En} {K : Nat → D → Prop} {o i e : Expr} {pos p1 p2 p3 : Pos}
/-- o[i], o a dict -/
theorem se_dix (hu : X.A.units + 9 < cLine) (h : SB X W ρ o fun n x => SE X W (ρ.to n) i fun m k => ∃ ks ds d, x = .dct ks ds ∧ KOk ks k ∧ dget ks ds k = some d ∧ K m d) (hs : NoSl i := by exact fun _ _ => rfl) : SE X W ρ (.Subscript o i pos) K := fun pins s σ H I r => by
  refine subD_of PySem.F.slot_dict_getitem.lookup hs (thn (h pins s σ H I r) fun u s1 ⟨x, H1, n, dx, I1, rx, sm1, r1, p1, h1⟩ => thn (h1 pins s1 σ H1 I1 r1) fun iv s2 ⟨y, H2, m, k, I2, ry, sm2, r2, p2, ks, ds, d, e, hk, hg, kk⟩ => ?_)
  subst e
  obtain ⟨a, kv, vs, ea, ng, q, rk, rv, dk, hl⟩ := r1.rd sm2 p1
  subst ea
  cases rx
  obtain ⟨ob, es, ep, O⟩ := dopen I2 q rk rv dk hl
  refine ⟨dict_type O.get O.ex, ?_⟩
  have hv := O.value hl (k := k)
  rw [hg] at hv
  obtain ⟨u, v, e1, e2, e3⟩ := hv
  exact raw_getItem O.get O.ex O.dat O.keys (Rep.nested I2 k y iv hk.key p2 ry) hk.dp (hk.raw dk) hu e1 fun tk => ⟨v, H2, m, d, I2.tok tk, e2, sm1.trans sm2, r2, e3, kk⟩
/-- i in o, i not in o -/
theorem pc_dct {neg : Bool} {op : CmpOp} (hop : op = (if neg then CmpOp.NotIn else CmpOp.In)) (hu : X.A.units + 9 < cLine) {K : Nat → Bool → Prop} (h : SE X W ρ i fun n k => SB X W (ρ.to n) o fun m x => ∃ ks ds, x = .dct ks ds ∧ KOk ks k ∧ K m (if neg then !(dget ks ds k).isSome else (dget ks ds k).isSome)) :
    PC X op i o (fun σ H Q => ∃ n, RE X.K X.w W H σ (ρ.to n) ∧ n = ρ.n ∧ ∀ H' n k, SameG W.g H H' → RE X.K X.w W H' σ (ρ.to n) → K n k → Q (.bl k) H') := by
  refine ⟨fun pins s σ H Q I ⟨n0, r, en, f⟩ => ?_⟩
  subst en
  refine thn (h pins s σ H I r) fun iv s1 ⟨y, H1, n, k, I1, ry, sm1, r1, p1, h1⟩ => thn (h1 pins s1 σ H1 I1 r1) fun u s2 ⟨x, H2, m, dx, I2, rx, sm2, r2, p2, ks, ds, e, hk, kk⟩ => ?_
  subst e
  have p1' := r1.rep' sm2 p1
  obtain ⟨a, kv, vs, ea, ng, q, rk, rv, dk, hl⟩ := p2
  subst ea
  cases rx
  obtain ⟨ob, es, ep, O⟩ := dopen I2 q rk rv dk hl
  have hv := O.value hl (k := k)
  have hb : ((at? (ks.map D.nk) k.nk).bind fun i => es[i]?.map (·.val)).isSome = (dget ks ds k).isSome := by
    cases hg : dget ks ds k with
    | none =>
      rw [hg] at hv
      rw [hv]
      rfl
    | some d =>
      rw [hg] at hv
      obtain ⟨u, v, e1, _⟩ := hv
      rw [e1]
      rfl
  have core := fun (Q' : Bool → Shared → Prop) (hq : ∀ tk, Q' (dget ks ds k).isSome { s2 with toks := tk }) => raw_contains (prog := X.prog) (A := X.A) (E := X.xe) O.get O.ex O.dat O.sys O.keys (Rep.nested I2 k y iv hk.key p1' ry) hk.dp (hk.raw dk) hu (Q := Q') (by rw [hb]; exact hq)
  cases neg with
  | false =>
    subst hop
    show wpAny _ _ (do return Value.bool (← contains (.ref a) iv)) _ _ s2
    exact wpAny_bind (core _ fun tk => wpAny_pure ⟨.bl _, H2, I2.tok tk, rfl, f H2 m _ (sm1.trans sm2) r2 kk⟩)
  | true =>
    subst hop
    show wpAny _ _ (do return Value.bool (!(← contains (.ref a) iv))) _ _ s2
    exact wpAny_bind (core _ fun tk => wpAny_pure ⟨.bl _, H2, I2.tok tk, rfl, f H2 m _ (sm1.trans sm2) r2 kk⟩)
theorem st_din (hu : X.A.units + 9 < cLine) {K : Nat → Bool → Prop} (h : SE X W ρ i fun n k => SB X W (ρ.to n) o fun m x => ∃ ks ds, x = .dct ks ds ∧ KOk ks k ∧ K m (dget ks ds k).isSome) (hm : behindInMarks .In o = false := by rfl) : STt X W ρ (.Compare i [.In] [o] pos) K :=
  STt.of (pt_cmp (pc_dct (neg := false) (op := .In) (W := W) (ρ := ρ) rfl hu (K := K) h) hm) fun σ H Q r f => ⟨ρ.n, r, rfl, fun H' n k s1 r1 h1 => ⟨k, rfl, f k H' n s1 r1 h1⟩⟩
theorem st_dnotin (hu : X.A.units + 9 < cLine) {K : Nat → Bool → Prop} (h : SE X W ρ i fun n k => SB X W (ρ.to n) o fun m x => ∃ ks ds, x = .dct ks ds ∧ KOk ks k ∧ K m (!(dget ks ds k).isSome)) (hm : behindInMarks .NotIn o = false := by rfl) : STt X W ρ (.Compare i [.NotIn] [o] pos) K :=
  STt.of (pt_cmp (pc_dct (neg := true) (op := .NotIn) (W := W) (ρ := ρ) rfl hu (K := K) h) hm) fun σ H Q r f => ⟨ρ.n, r, rfl, fun H' n k s1 r1 h1 => ⟨k, rfl, f k H' n s1 r1 h1⟩⟩
theorem se_din (hu : X.A.units + 9 < cLine) (h : SE X W ρ i fun n k => SB X W (ρ.to n) o fun m x => ∃ ks ds, x = .dct ks ds ∧ KOk ks k ∧ K m (.bl (dget ks ds k).isSome)) (hm : behindInMarks .In o = false := by rfl) : SE X W ρ (.Compare i [.In] [o] pos) K :=
  SE.of (pe_cmp (pc_dct (neg := false) (op := .In) (W := W) (ρ := ρ) rfl hu (K := fun n b => K n (.bl b)) h) hm) fun σ H Q r f => ⟨ρ.n, r, rfl, fun H' n k s1 r1 h1 => f (.bl k) H' n (.bl k) s1 r1 rfl h1⟩
/-- o.get(i) -/
theorem se_dget1 (hu : X.A.units + 9 < cLine) (h : SB X W ρ o fun n x => ∃ ks ds, x = .dct ks ds ∧ SE X W (ρ.to n) i fun m k => KOk ks k ∧ K m ((dget ks ds k).getD .non))
    (hbase : attributeBase o "get" X.env (eval o X.env) = eval o X.env := by rfl)
    (hfew : ((backTo p3 (starEach [i] X.env)).all (fun x => !x.1) && (backToKw p3 (keywordEach [] X.env)).all (fun x => x.1.isSome) && decide ([i].length + ([] : List Keyword).length + (if ([] : List Keyword).isEmpty then 0 else 1) < 30)) = true := by rfl)
    (hline : (p2.endLine == p3.line) = true := by rfl) (hs : starEach [i] X.env = [(false, eval i X.env)] := by rfl) : SE X W ρ (.Call (.Attribute o "get" p2) [i] [] p3) K := fun pins s σ H I r => by
  refine wpAny_Call_method_late hbase hfew hline rfl (thn (h pins s σ H I r) fun u s1 ⟨x, H1, n, dx, I1, rx, sm1, r1, p1, ks, ds, e, h1⟩ => ?_)
  subst e
  obtain ⟨a, kv, vs, ea, ng, q, rk, rv, dk, hl⟩ := id p1
  subst ea
  cases rx
  obtain ⟨ob, es, ep, O⟩ := dopen I1 q rk rv dk hl
  refine ⟨"dict", "dict.get", PySem.F.plainAttrs_dict, PySem.F.slot_dict_get, PySem.F.type_dict_get, dict_type O.get O.ex, fun b eb => ?_, ?_⟩
  · cases eb
    exact ⟨ob, O.get, O.ex.2.1⟩
  have hA := (pa_cons (pe_X (W := W) (ρ := ρ)) pa_nil hs).run p3 pins s1 σ H1 (fun xs H2 => ∃ y n2 k, xs = [y] ∧ SameG W.g H1 H2 ∧ RE X.K X.w W H2 σ (ρ.to n2) ∧ Rep X.K X.w W.g H2 (Fb W.O σ ρ.s) k y ∧ KOk ks k ∧ K n2 ((dget ks ds k).getD .non)) I1 ⟨n, r1, _, h1, fun v H2 m d s2 r2 p2 ⟨hk, kk⟩ => ⟨v, m, d, rfl, s2, r2, p2, hk, kk⟩⟩
  rw [hs] at hA ⊢
  refine Calls.callWith_builtin rfl (Calls.evalArgs_plain ?_)
  refine thn hA fun us s2 ⟨xs, H2, I2, rxs, y, m, k, e2, sm2, r2, p2, hk, kk⟩ => ?_
  subst e2
  obtain ⟨iv, e3, ry⟩ := vals1 rxs
  subst e3
  obtain ⟨a', kv', vs', ea', ng', q', rk', rv', dk', hl'⟩ := r1.rd sm2 p1
  cases ea'
  obtain ⟨ob', es', ep', O'⟩ := dopen I2 q' rk' rv' dk' hl'
  refine raw_get1 O'.get O'.ex O'.dat O'.sys O'.keys (Rep.nested I2 k y iv hk.key p2 ry) hk.dp (hk.raw dk) hu fun tk => ?_
  have hv := O'.value hl (k := k)
  cases hg : dget ks ds k with
  | none =>
    rw [hg] at hv kk
    rw [hv]
    exact ⟨.non, H2, m, .non, I2.tok tk, rfl, sm1.trans sm2, r2, rfl, kk⟩
  | some d =>
    rw [hg] at hv kk
    obtain ⟨u, v, e1, e2, e3⟩ := hv
    rw [e1]
    exact ⟨v, H2, m, d, I2.tok tk, e2, sm1.trans sm2, r2, e3, kk⟩
/-- o.get(i, e) -/
theorem se_dget2 (hu : X.A.units + 9 < cLine) (h : SB X W ρ o fun n x => ∃ ks ds, x = .dct ks ds ∧ SE X W (ρ.to n) i fun m k => SE X W (ρ.to m) e fun l y => KOk ks k ∧ K l ((dget ks ds k).getD y))
    (hbase : attributeBase o "get" X.env (eval o X.env) = eval o X.env := by rfl)
    (hfew : ((backTo p3 (starEach [i, e] X.env)).all (fun x => !x.1) && (backToKw p3 (keywordEach [] X.env)).all (fun x => x.1.isSome) && decide ([i, e].length + ([] : List Keyword).length + (if ([] : List Keyword).isEmpty then 0 else 1) < 30)) = true := by rfl)
    (hline : (p2.endLine == p3.line) = true := by rfl) (hs : starEach [i, e] X.env = (false, eval i X.env) :: starEach [e] X.env := by rfl) (hs2 : starEach [e] X.env = (false, eval e X.env) :: starEach [] X.env := by rfl) (hpl : (backTo p3 (starEach [e] X.env)).any (·.1) = false := by rfl) : SE X W ρ (.Call (.Attribute o "get" p2) [i, e] [] p3) K := fun pins s σ H I r => by
  refine wpAny_Call_method_late hbase hfew hline rfl (thn (h pins s σ H I r) fun u s1 ⟨x, H1, n, dx, I1, rx, sm1, r1, p1, ks, ds, e, h1⟩ => ?_)
  subst e
  obtain ⟨a, kv, vs, ea, ng, q, rk, rv, dk, hl⟩ := id p1
  subst ea
  cases rx
  obtain ⟨ob, es, ep, O⟩ := dopen I1 q rk rv dk hl
  refine ⟨"dict", "dict.get", PySem.F.plainAttrs_dict, PySem.F.slot_dict_get, PySem.F.type_dict_get, dict_type O.get O.ex, fun b eb => ?_, ?_⟩
  · cases eb
    exact ⟨ob, O.get, O.ex.2.1⟩
  have hA := (pa_cons (pe_X (W := W) (ρ := ρ)) (pa_cons (pe_X (W := W) (ρ := ρ)) pa_nil hs2) hs).run p3 pins s1 σ H1 (fun xs H2 => ∃ y z n2 k d, xs = [y, z] ∧ SameG W.g H1 H2 ∧ RE X.K X.w W H2 σ (ρ.to n2) ∧ Rep X.K X.w W.g H2 (Fb W.O σ ρ.s) k y ∧ Rep X.K X.w W.g H2 (Fb W.O σ ρ.s) d z ∧ KOk ks k ∧ K n2 ((dget ks ds k).getD d)) I1
    ⟨n, r1, _, h1, fun v H2 m k s2 r2 p2 h2 => ⟨m, r2, _, h2, fun v3 H3 l d s3 r3 p3 ⟨hk, kk⟩ => ⟨v, v3, l, k, d, rfl, s2.trans s3, r3, r2.rep' s3 p2, p3, hk, kk⟩⟩⟩
  rw [hs] at hA ⊢
  refine Calls.callWith_builtin (by show (false || (backTo p3 (starEach [e] X.env)).any (·.1)) = false; rw [hpl]; rfl) (Calls.evalArgs_plain ?_)
  refine thn hA fun us s2 ⟨xs, H2, I2, rxs, y, z, m, k, d0, e2, sm2, r2, p2, pd, hk, kk⟩ => ?_
  subst e2
  obtain ⟨iv, dv, e3, ry, rz⟩ := vals2 rxs
  subst e3
  obtain ⟨a', kv', vs', ea', ng', q', rk', rv', dk', hl'⟩ := r1.rd sm2 p1
  cases ea'
  obtain ⟨ob', es', ep', O'⟩ := dopen I2 q' rk' rv' dk' hl'
  refine raw_get2 O'.get O'.ex O'.dat O'.sys O'.keys (Rep.nested I2 k y iv hk.key p2 ry) hk.dp (hk.raw dk) hu fun tk => ?_
  have hv := O'.value hl (k := k)
  cases hg : dget ks ds k with
  | none =>
    rw [hg] at hv kk
    rw [hv]
    exact ⟨z, H2, m, d0, I2.tok tk, rz, sm1.trans sm2, r2, pd, kk⟩
  | some d =>
    rw [hg] at hv kk
    obtain ⟨u, v, e1, e2, e3⟩ := hv
    rw [e1]
    exact ⟨v, H2, m, d, I2.tok tk, e2, sm1.trans sm2, r2, e3, kk⟩
end

/-! ### a dict is written -/
section
variable {X : Cx} {W : Fm} {ρ : En} {R : RD} {i e : Expr} {pos p1 p2 p3 : Pos}
theorem dO_stay {a : Addr} {xs : List (Int × V × V)} {h : Heap} (h0 : (a == sysModules) = false) (hz : xs.length ≤ sizeLine) {o : Obj} {es : Array DictEntry} {ep : Nat} (h1 : h.get? a = some o) (h2 : o.ExactDict) (h3 : o.data = .dict es ep) (h4 : Paired EntIs xs es.toList) {P : Program} {w : World} {H : Hp} : ObjOk P w H h a (dO a (o, xs)) :=
  ⟨⟨h0, hz, h1, h2, es, ep, h3, h4⟩, ⟨o, h1⟩, fun h1 h2 ⟨a1, a2, b1, b2⟩ k => ⟨a1, a2, k _ b1, b2⟩⟩
theorem paired_set {α β : Type} {R : α → β → Prop} {a : α} {b : β} (r : R a b) : ∀ {l : List α} {m : List β} (i : Nat), Paired R l m → Paired R (l.set i a) (m.set i b)
  | _, _, _, .nil => .nil
  | _, _, 0, .cons _ t => .cons r t
  | _, _, i + 1, .cons q t => .cons q (paired_set r i t)
theorem paired_snoc {α β : Type} {R : α → β → Prop} {a : α} {b : β} (r : R a b) : ∀ {l : List α} {m : List β}, Paired R l m → Paired R (l ++ [a]) (m ++ [b])
  | _, _, .nil => .cons r .nil
  | _, _, .cons q t => .cons q (paired_snoc r t)
end
end Sk
set_option maxHeartbeats 4000000
/-! S13: dicts made and written. -/
namespace Sk
open PySem PySem.Spec PyProof.Rows L2

theorem ents_get {w : World} {ks : List D} {kv vs : List V} {i : Nat} {t : Int × V × V} (h : (entL w ks kv vs)[i]? = some t) : ∃ k, ks[i]? = some k ∧ kv[i]? = some t.2.1 ∧ vs[i]? = some t.2.2 ∧ t.1 = k.nk.hash w := by
  unfold entL at h
  obtain ⟨h1, h2⟩ := List.getElem?_zip_eq_some.mp h
  obtain ⟨h3, h4⟩ := List.getElem?_zip_eq_some.mp h2
  rw [List.getElem?_map] at h1
  cases e : ks[i]? with
  | none => rw [e] at h1; cases h1
  | some k =>
    rw [e] at h1
    exact ⟨k, rfl, h3, h4, (Option.some.inj h1).symm⟩
theorem ents_len {w : World} {ks : List D} {kv vs : List V} (h1 : ks.length = kv.length) (h2 : ks.length = vs.length) : (entL w ks kv vs).length = ks.length := by
  unfold entL
  rw [List.length_zip, List.length_zip, List.length_map]
  omega
theorem ents_paired {w : World} {ks : List D} {kv vs : List V} {l : List DictEntry} (h1 : ks.length = kv.length) (h2 : ks.length = vs.length) (h3 : l.length = ks.length)
    (h : ∀ (i : Nat) (e : DictEntry), l[i]? = some e → ∃ k x y, ks[i]? = some k ∧ kv[i]? = some x ∧ vs[i]? = some y ∧ e.hash = k.nk.hash w ∧ RelV x e.key ∧ RelV y e.val) : Paired EntIs (entL w ks kv vs) l := by
  refine paired_of (by rw [ents_len h1 h2, h3]) fun i t e ht he => ?_
  obtain ⟨k, e1, e2, e3, e4⟩ := ents_get ht
  obtain ⟨k', x, y, f1, f2, f3, f4, f5, f6⟩ := h i e he
  rw [e1] at f1
  rw [e2] at f2
  rw [e3] at f3
  cases f1
  cases f2
  cases f3
  exact ⟨f4.trans e4.symm, f5, f6⟩
def kvP (ks : List D) (k : D) (kv : List V) (x : V) : List V := match at? (ks.map D.nk) k.nk with
  | some _ => kv
  | none => kv ++ [x]
def vsP (ks : List D) (k : D) (vs : List V) (y : V) : List V := match at? (ks.map D.nk) k.nk with
  | some i => vs.set i y
  | none => vs ++ [y]
section
variable {Kf : PySem.W.Frag} {w : World} {g : G} {H : Hp} {F : Addr → Prop}
theorem RepL.set : ∀ {ds : List D} {vs : List V} {d : D} {v : V} (i : Nat), RepL Kf w g H F ds vs → Rep Kf w g H F d v → RepL Kf w g H F (ds.set i d) (vs.set i v)
  | [], vs, d, v, i, h, _ => by
    have e : vs = [] := h
    subst e
    exact rfl
  | d0 :: ds, vs, d, v, 0, ⟨x, r, e, h1, h2⟩, h => by
    subst e
    exact ⟨v, r, rfl, h, h2⟩
  | d0 :: ds, vs, d, v, i + 1, ⟨x, r, e, h1, h2⟩, h => by
    subst e
    exact ⟨x, r.set i v, rfl, h1, RepL.set i h2 h⟩
theorem rep_putK {ks : List D} {kv : List V} {k : D} {x : V} (h : RepL Kf w g H F ks kv) (hx : Rep Kf w g H F k x) : RepL Kf w g H F (dputK ks k) (kvP ks k kv x) := by
  unfold dputK kvP
  cases at? (ks.map D.nk) k.nk with
  | some i => exact h
  | none => exact h.append ⟨x, [], rfl, hx, rfl⟩
theorem rep_putV {ks ds : List D} {vs : List V} {k d : D} {y : V} (h : RepL Kf w g H F ds vs) (hy : Rep Kf w g H F d y) : RepL Kf w g H F (dputV ks ds k d) (vsP ks k vs y) := by
  unfold dputV vsP
  cases at? (ks.map D.nk) k.nk with
  | some i => exact h.set i hy
  | none => exact h.append ⟨y, [], rfl, hy, rfl⟩
end
section
variable {X : Cx}
/-- a[k] = v of a tracked dict -/
def rSetO (K : PySem.W.Frag) (w : World) : TSet := fun o i v H Q => ∃ (g : G) (F : Addr → Prop) (ks ds : List D) (k d : D) (a : Addr) (kv : Obj × List V) (vs : List V), o = .ref a ∧ H a = some (dO a (ents w ks kv vs)) ∧ RepL K w g H F ks kv.2 ∧ RepL K w g H F ds vs ∧ DKeys ks ∧ ks.length = ds.length ∧ Rep K w g H F k i ∧ KOk ks k ∧ ks.length < 1000000 ∧
  ∀ ob, Q (upd H a (dO a (ents w (dputK ks k) (ob, kvP ks k kv.2 i) (vsP ks k vs v))))
theorem set_dO (hu : X.A.units + 9 < cLine) : PSet X (rSetO X.K X.w) := by
  intro pins s σ H o i v ov iv u Q I ro ri rv h
  obtain ⟨g, F, ks, ds, k, d, a, kv, vs, e, q, rk, rd, dk, hl, rik, hk, hz, hQ⟩ := h
  subst e
  cases ro
  obtain ⟨ob, es, ep, O⟩ := dopen I q rk rd dk hl
  have nk := Rep.nested I k i iv hk.key rik ri
  have l1 := rk.length
  have l2 := rd.length
  refine raw_setItem O.get O.ex O.dat O.keys nk hk.dp (hk.raw dk) hu (by rw [O.size]; exact O.small) fun h' tk o' ep' g1 g2 g3 g4 => ?_
  refine ⟨_, I.write (x := a) (e := a) (t' := tk) (by rw [q]; trivial) (.inl rfl) (fun b ob nb e => (g4.2 b nb).trans e) ⟨o', g1⟩ ?_, hQ o'⟩
  have lk : (dputK ks k).length = (kvP ks k kv.2 i).length := by
    unfold dputK kvP
    cases at? (ks.map D.nk) k.nk <;> simp [l1]
  have lv : (dputK ks k).length = (vsP ks k vs v).length := by
    unfold dputK vsP
    cases at? (ks.map D.nk) k.nk
    · simp only [List.length_append, List.length_singleton]
      omega
    · simp only [List.length_set]
      omega
  have ls : (dputK ks k).length ≤ ks.length + 1 := by
    unfold dputK
    cases at? (ks.map D.nk) k.nk <;> simp
  refine dO_stay (xs := entL X.w (dputK ks k) (kvP ks k kv.2 i) (vsP ks k vs v)) O.sys ?_ g1 g2 g3 (ents_paired lk lv ?_ fun j e he => ?_)
  · rw [ents_len lk lv]
    have : (dputK ks k).length ≤ 1000000 := by omega
    exact Nat.le_trans this (by decide)
  · unfold putE dputK
    cases ea : at? (ks.map D.nk) k.nk with
    | some j => simp [O.size]
    | none => simp [O.size]
  · have old : ∀ (j : Nat) (e : DictEntry), es[j]? = some e → ∃ k x y, ks[j]? = some k ∧ kv.2[j]? = some x ∧ vs[j]? = some y ∧ e.hash = k.nk.hash X.w ∧ RelV x e.key ∧ RelV y e.val := fun j e he => by
      obtain ⟨x, y, hx, hy, q1, q2⟩ := O.val j e he
      have jl : j < ks.length := by rw [← O.size]; exact (Array.getElem?_eq_some_iff.mp he).1
      obtain ⟨e', he', r⟩ := paired_get O.keys.each (show (ks.map D.nk)[j]? = some ks[j].nk by rw [List.getElem?_map, List.getElem?_eq_getElem jl]; rfl)
      rw [Array.getElem?_toList, he] at he'
      cases he'
      exact ⟨ks[j], x, y, List.getElem?_eq_getElem jl, hx, hy, r.1, q1, q2⟩
    unfold putE at he
    unfold dputK kvP vsP
    cases ea : at? (ks.map D.nk) k.nk with
    | some t =>
      rw [ea] at he
      rw [Array.getElem?_toList] at he
      obtain ⟨tl, tk2⟩ := at_lt ea
      by_cases hj : j = t
      · subst hj
        rw [Array.getElem?_modify, if_pos rfl] at he
        cases ee : es[j]? with
        | none => rw [ee] at he; cases he
        | some e0 =>
          rw [ee] at he
          have e1 : ({ e0 with val := u } : DictEntry) = e := Option.some.inj he
          subst e1
          obtain ⟨k', x, y, f1, f2, f3, f4, f5, f6⟩ := old j e0 ee
          refine ⟨k', x, v, f1, f2, ?_, f4, f5, rv⟩
          rw [List.getElem?_set, if_pos rfl, if_pos (List.getElem?_eq_some_iff.mp f3).1]
      · rw [Array.getElem?_modify, if_neg (Ne.symm hj)] at he
        obtain ⟨k', x, y, f1, f2, f3, f4⟩ := old j e he
        exact ⟨k', x, y, f1, f2, by rw [List.getElem?_set_ne (Ne.symm hj)]; exact f3, f4⟩
    | none =>
      rw [ea] at he
      rw [Array.getElem?_toList, Array.getElem?_push] at he
      by_cases hj : j = es.size
      · rw [if_pos hj] at he
        cases he
        rw [O.size] at hj
        refine ⟨k, i, v, ?_, ?_, ?_, rfl, ri, rv⟩
        · rw [hj, List.getElem?_append_right (Nat.le_refl _), Nat.sub_self]
          rfl
        · rw [hj, l1, List.getElem?_append_right (Nat.le_refl _), Nat.sub_self]
          rfl
        · rw [hj, hl, l2, List.getElem?_append_right (Nat.le_refl _), Nat.sub_self]
          rfl
      · rw [if_neg hj] at he
        obtain ⟨k', x, y, f1, f2, f3, f4⟩ := old j e he
        exact ⟨k', x, y, by rw [List.getElem?_append_left (List.getElem?_eq_some_iff.mp f1).1]; exact f1, by rw [List.getElem?_append_left (List.getElem?_eq_some_iff.mp f2).1]; exact f2, by rw [List.getElem?_append_left (List.getElem?_eq_some_iff.mp f3).1]; exact f3, f4⟩
end
section
variable {X : Cx} {W : Fm} {ρ : En} {R : RD} {K : Nat → D → Prop} {i e : Expr} {pos p1 p2 p3 : Pos}
/-- x[i] = e, x the frame's own dict -/
theorem sn_dset (j : Nat) {x : Str} {ks ds : List D} (hu : X.A.units + 9 < cLine) (h : SE X W ρ e fun n d => SE X W (ρ.to n) i fun m k => KOk ks k ∧ ks.length < 1000000 ∧ R.nx ((ρ.to m).set j (.ow (.dct (dputK ks k) (dputV ks ds k d))))) (hl : ρ.s[j]? = some (.ow (.dct ks ds)) := by rfl) (hN : X.N[j]? = some x := by rfl)
    (hv : Vis X.env.scope x := by first | exact Or.inl rfl | exact Or.inr (Or.inl rfl) | exact Or.inr (Or.inr rfl)) (hdb : (x == ("__debug__" : Str)) = false := by decide) (hcd : (x == ("__classdict__" : Str)) = false := by decide)
    (ha : ∀ v, assign (.Subscript (.Name x p1) i p2) X.env v = (do
      let ov ← holding [v] (eval (.Name x p1) X.env)
      let iv ← holding [v, ov] (eval i X.env)
      standAt p2
      holding [v, ov, iv] (setItem ov iv v)
      release [v, ov, iv] []) := by intro _; rfl)
    (hs : swapsWithSole [.Subscript (.Name x p1) i p2] e pos.line X.env = pure false := by rfl) (hw : swappedStores [.Subscript (.Name x p1) i p2] e X.env = pure none := by rfl)
    (h1 : (assignEach [.Subscript (.Name x p1) i p2] X.env).map (·.2) = [assign (.Subscript (.Name x p1) i p2) X.env] := by rfl) : SN X W ρ (.Assign [.Subscript (.Name x p1) i p2] e pos) R := by
  refine SN.of (ps_asg (pe_X (W := W) (ρ := ρ)) (pg_sub (pe_var hN hv hdb hcd) (pe_X (W := W) (ρ := ρ)) (set_dO hu) ha) hs hw h1) fun σ H D r f => ⟨ρ.n, r, _, h, fun v H1 n d s1 r1 q1 h1 => ?_⟩
  obtain ⟨a, e0, n1, n2, kv, vs, q, rk, rv, dk, hlen⟩ := r1.slot j _ hl
  refine ⟨.ref a, e0, n, r1, _, h1, fun y H2 m k s2 r2 q2 ⟨hk, hz, kk⟩ => ?_⟩
  have qa : H2 a = some (dO a (ents X.w ks kv vs)) := s2 _ _ q (r1.notG n1)
  refine ⟨W.g, Fb W.O σ ρ.s, ks, ds, k, d, a, kv, vs, rfl, qa, r1.repL' s2 rk, r1.repL' s2 rv, dk, hlen, q2, hk, hz, fun ob => ?_⟩
  exact f.nx σ _ _ (r2.write (d' := .dct (dputK ks k) (dputV ks ds k d)) hl e0 fun F up => ⟨(ob, _), _, upd_same, up (rep_putK (r1.repL' s2 rk) q2), up (rep_putV (r1.repL' s2 rv) (r1.rep' s2 q1)), dk.put hk, dput_len hlen⟩) kk
/-- {} -/
theorem big_sys {pins : List (Addr × Obj)} {s : Shared} {σ : L2.St} {H : Hp} (I : Inv X pins σ H s) : (s.heap.objs.size == sysModules) = false := by
  have z := (show ObjOk X.prog X.w (upd H s.heap.objs.size (.dK [])) (s.heap.push { cls := .type "dict", data := .dict #[] }) s.heap.objs.size (.dK []) from dk_empty s.heap I.big)
  exact z.2.1
theorem sf_dict0 (k : K ρ.n (.dct [] [])) : SF X W ρ (.Dict [] [] pos) K := fun pins s σ H I r => by
  have hp : H s.heap.objs.size = none := I.hok.fresh (Nat.le_refl _)
  refine wpAny_Dict_empty ⟨s.heap.objs.size, upd H s.heap.objs.size (dO s.heap.objs.size (({ cls := .type "dict", data := .dict #[] } : Obj), [])), ρ.n, .dct [] [], ?_, rfl, .of (same_new hp), hp, r.stay (same_new hp), r.addNew hp, ?_, k⟩
  · exact I.laid (a := s.heap.objs.size) (o := dO s.heap.objs.size (({ cls := .type "dict", data := .dict #[] } : Obj), [])) (t' := s.toks) (fun _ _ q => Heap.get?_push_of_some _ q) (Nat.le_refl _) (dO_stay (big_sys I) (Nat.zero_le _) (Heap.get?_push_size _ rfl) ⟨rfl, rfl, rfl⟩ rfl .nil)
  · exact ⟨(_, []), [], upd_same, rfl, rfl, ⟨fun _ h => (nomatch h), List.nodup_nil, .inl fun _ h => (nomatch h)⟩, rfl⟩
end
end Sk
set_option maxHeartbeats 4000000
/-! S14: dicts walked by keys and by values, texts by signs. -/
namespace Sk
open PySem PySem.Spec PyProof.Rows L2

theorem dO_open {X : Cx} {pins : List (Addr × Obj)} {σ : L2.St} {H : Hp} {s : Shared} {a : Addr} {x : Obj × List (Int × V × V)} (I : Inv X pins σ H s) (h : H a = some (dO a x)) :
    (a == sysModules) = false ∧ s.heap.get? a = some x.1 ∧ x.1.ExactDict ∧ ∃ es ep, x.1.data = .dict es ep ∧ Paired EntIs x.2 es.toList := by
  obtain ⟨⟨hs, _, h1, h2, es, ep, h3, h4⟩, _⟩ := (show ObjOk X.prog X.w H s.heap a (dO a x) from I.hok a _ h)
  exact ⟨hs, h1, h2, es, ep, h3, h4⟩
/-- the keys (f = the first of a pair) or the values of the dict at a -/
def ItO (f : V × V → V) (a : Addr) (x : Obj × List (Int × V × V)) : It :=
  ⟨fun i H => H a = some (dO a x) ∧ i < x.2.length, fun i H v H' => H' = H ∧ ∃ t, x.2[i]? = some t ∧ v = f t.2, fun i H => H a = some (dO a x) ∧ x.2.length ≤ i⟩
theorem turn_keysO {P : Program} {w : World} {K : PySem.W.Frag} {tg : Expr} {a : Addr} {x : Obj × List (Int × V × V)} {es : Array DictEntry} {ep : Nat} (it : Addr) (hod : x.1.data = .dict es ep) : Turn P w K tg (ItO Prod.fst a x) [it] it (fun i h => h.IsKeyIter it a i x.2.length ep) where
  mem := by simp
  obj := fun i h st b hb => by
    have e : b = it := by simpa using hb
    subst e
    obtain ⟨oi, e, c, dd⟩ := st
    exact ⟨oi, e, fun v z => by rw [dd] at z; cases z⟩
  keep := fun i h h' st k => st.at fun oi e => k it (by simp) oi e
  item := by
    intro X hP hw hK hc i pins s σ H E I hf st hg
    subst hP hw hK
    obtain ⟨hd, hi⟩ := hg
    obtain ⟨f0, f1, f2, f3, f4, f5⟩ := hf it (by simp)
    obtain ⟨hs, hgd, hx, es', ep', hdt, hp⟩ := dO_open I hd
    obtain ⟨rfl, rfl⟩ := dict_ep hod hdt
    obtain ⟨en, hen, r⟩ := Sk.paired_get hp (List.getElem?_eq_getElem hi)
    have hsz : es'.size = x.2.length := by rw [paired_len hp, Array.length_toList]
    rw [Array.getElem?_toList] at hen
    refine next_key_item st hgd hdt hsz hen fun h' st' sb => ?_
    have I1 : Inv X pins σ H { s with heap := h' } := I.turned (t' := s.toks) (fun b ob hb e => (sb.2 b hb).trans e) f0 f1 f3 f4 f5
    obtain ⟨oi, e, c, dd⟩ := id st'
    exact ⟨en.key, rfl, go_of (s := { s with heap := h' }) e c dd (by decide) ⟨_, H, I1, r.2.1, ⟨rfl, x.2[i], List.getElem?_eq_getElem hi, rfl⟩, st', fun b hb => (hf b hb).1⟩⟩
  done := by
    intro X hP hw hK hc i pins s σ H E I hf st hg
    subst hP hw hK
    obtain ⟨hd, hi⟩ := hg
    obtain ⟨f0, f1, f2, f3, f4, f5⟩ := hf it (by simp)
    obtain ⟨hs, hgd, hx, es', ep', hdt, hp⟩ := dO_open I hd
    obtain ⟨rfl, rfl⟩ := dict_ep hod hdt
    have hsz : es'.size = x.2.length := by rw [paired_len hp, Array.length_toList]
    exact next_key_end (I.ok.hd hc) st hgd hdt hsz hi fun h' eb => ⟨rfl, I.turned (t' := s.toks) (fun b ob hb e => eb b ob hb e) f0 f1 f3 f4 f5⟩
  self := fun A i s Q E st h => by
    refine wpAny_pyIter_slot st.typeIs F.slot_dict_keyiterator_iter (wpAny_call_entry F.slot_dict_keyiterator_iter st.typeIs F.entry_dict_keyiterator_iter ?_ (F.args_dict_keyiterator_iter_1 _))
    show wpAny _ _ (ret (.ref it)) _ _ s
    exact wpAny_pure ⟨_, rfl, "dict_keyiterator", _, st.typeIs, F.slot_dict_keyiterator_next.lookup, h⟩
theorem turn_valsO {P : Program} {w : World} {K : PySem.W.Frag} {tg : Expr} {a : Addr} {x : Obj × List (Int × V × V)} {es : Array DictEntry} {ep : Nat} (it : Addr) (hod : x.1.data = .dict es ep) : Turn P w K tg (ItO Prod.snd a x) [it] it (fun i h => h.IsValIter it a i x.2.length ep) where
  mem := by simp
  obj := fun i h st b hb => by
    have e : b = it := by simpa using hb
    subst e
    obtain ⟨oi, e, c, dd⟩ := st
    exact ⟨oi, e, fun v z => by rw [dd] at z; cases z⟩
  keep := fun i h h' st k => st.at fun oi e => k it (by simp) oi e
  item := by
    intro X hP hw hK hc i pins s σ H E I hf st hg
    subst hP hw hK
    obtain ⟨hd, hi⟩ := hg
    obtain ⟨f0, f1, f2, f3, f4, f5⟩ := hf it (by simp)
    obtain ⟨hs, hgd, hx, es', ep', hdt, hp⟩ := dO_open I hd
    obtain ⟨rfl, rfl⟩ := dict_ep hod hdt
    obtain ⟨en, hen, r⟩ := Sk.paired_get hp (List.getElem?_eq_getElem hi)
    have hsz : es'.size = x.2.length := by rw [paired_len hp, Array.length_toList]
    rw [Array.getElem?_toList] at hen
    obtain ⟨hlt, hen⟩ := Array.getElem?_eq_some_iff.mp hen
    rw [← hsz] at st
    refine wpAny_pyNext_values_item_raw st ⟨_, hgd, hx, hdt⟩ hlt fun h' st' sb => ?_
    rw [hen]
    rw [hsz] at st'
    have I1 : Inv X pins σ H { s with heap := h' } := I.turned (t' := s.toks) (fun b ob hb e => (sb.2 b hb).trans e) f0 f1 f3 f4 f5
    obtain ⟨oi, e, c, dd⟩ := id st'
    exact ⟨en.val, rfl, go_of (s := { s with heap := h' }) e c dd (by decide) ⟨_, H, I1, r.2.2, ⟨rfl, x.2[i], List.getElem?_eq_getElem hi, rfl⟩, st', fun b hb => (hf b hb).1⟩⟩
  done := by
    intro X hP hw hK hc i pins s σ H E I hf st hg
    subst hP hw hK
    obtain ⟨hd, hi⟩ := hg
    obtain ⟨f0, f1, f2, f3, f4, f5⟩ := hf it (by simp)
    obtain ⟨hs, hgd, hx, es', ep', hdt, hp⟩ := dO_open I hd
    obtain ⟨rfl, rfl⟩ := dict_ep hod hdt
    have hsz : es'.size = x.2.length := by rw [paired_len hp, Array.length_toList]
    rw [← hsz] at st hi
    exact wpAny_pyNext_values_end_raw (I.ok.hd hc) st ⟨_, hgd, hx, hdt⟩ hi fun h' eb => ⟨rfl, I.turned (t' := s.toks) (fun b ob hb e => eb b ob hb e) f0 f1 f3 f4 f5⟩
  self := fun A i s Q E st h => wpAny_pyIter_valiter st h
def iKeysO (td : TE) : TI := fun σ H R => td σ H fun v H1 => ∃ a x, v = .ref a ∧ H1 a = some (dO a x) ∧ R (ItO Prod.fst a x) H1
def iValsO (td : TE) : TI := fun σ H R => td σ H fun v H1 => ∃ a x, v = .ref a ∧ H1 a = some (dO a x) ∧ R (ItO Prod.snd a x) H1
section
variable {X : Cx} {tg e : Expr} {td : TE} {apos cpos : Pos}
theorem pi_keysO (he : PE X e td) : PI X tg e (iKeysO td) := by
  refine ⟨fun pins s σ H R I h => ?_⟩
  refine thn (he.run pins s σ H _ I h) fun u s1 ⟨v, H1, I1, rx, a, x, ex, hd, q⟩ => ?_
  subst ex
  obtain rfl : u = Value.ref a := rx
  obtain ⟨hs, hgd, hx, es, ep, hdt, hp⟩ := dO_open I1 hd
  have hsz : es.size = x.2.length := by rw [paired_len hp, Array.length_toList]
  refine iter_keys hs hgd hx hdt (pi_one (tk := s1.toks) I1 _ (turn_keysO _ hdt) ⟨_, Heap.get?_push_size _ rfl, rfl, ?_⟩ q)
  rw [hsz] <;> rfl
theorem pi_valuesO (he : PE X e td) (hbase : attributeBase e "values" X.env (eval e X.env) = eval e X.env := by rfl) (hline : (apos.endLine == cpos.line) = true := by rfl) : PI X tg (.Call (.Attribute e "values" apos) [] [] cpos) (iValsO td) := by
  refine ⟨fun pins s σ H R I h => ?_⟩
  refine wpAny_Call_method (T := "dict") (id := "dict.values") hbase rfl hline F.plainAttrs_dict F.slot_dict_values F.type_dict_values (thn (he.run pins s σ H _ I h) fun u s1 ⟨v, H1, I1, rx, a, x, ex, hd, q⟩ => ?_)
  subst ex
  obtain rfl : u = Value.ref a := rx
  obtain ⟨hs, hgd, hx, es, ep, hdt, hp⟩ := dO_open I1 hd
  have hsz : es.size = x.2.length := by rw [paired_len hp, Array.length_toList]
  refine ⟨dict_type hgd hx, fun b eb => by
    cases eb
    exact ⟨x.1, hgd, hx.2.1⟩, ?_⟩
  have I2 : Inv X pins σ H1 { s1 with heap := s1.heap.push { cls := .type "dict_values", data := .fields #[.ref a] } } := I1.kept (t' := s1.toks) fun b ob q => Heap.get?_push_of_some _ q
  have fin : wpAny (model X.prog X.w) X.A (pyIter (.ref s1.heap.objs.size)) (PIE X pins σ tg R) X.xe { s1 with heap := s1.heap.push { cls := .type "dict_values", data := .fields #[.ref a] } } := by
    refine wpAny_pyIter_values_raw (d := a) ⟨_, Heap.get?_push_size _ rfl, rfl, rfl⟩ ⟨x.1, Heap.get?_push_of_some _ hgd, hx, hdt⟩ (pi_one (tk := s1.toks) I2 _ (turn_valsO _ hdt) ⟨_, Heap.get?_push_size _ rfl, rfl, ?_⟩ q)
    rw [hsz] <;> rfl
  show wpAny _ _ (callWith cpos (.builtin "dict.values") [.ref a] [] []) _ X.xe s1
  exact method_meetsIn F.slot_dict_values F.entry_dict_values rfl (PySem.evalArgs_none ⟨rfl, dict_type hgd hx, F.args_dict_values_1 _, _, meets_dict_values_raw a hs, ⟨es, ep, x.1, hgd, hx, hdt⟩, fin⟩)
end

/-! ### told of data -/
section
variable {X : Cx} {W : Fm} {ρ : En} {K : Nat → List D → Prop} {e tg : Expr} {apos cpos : Pos}
theorem RE.holds {K : PySem.W.Frag} {w : World} {H : Hp} {σ : L2.St} (r : RE K w W H σ ρ) {γ : List (D × V)} (h : ∀ p ∈ γ, Rep K w W.g H (Fb W.O σ ρ.s) p.1 p.2) : RE K w W H σ ⟨ρ.n, ρ.s, γ ++ ρ.h⟩ :=
  ⟨r.len, r.same, r.src, r.tr, fun p hp => by
    rcases List.mem_append.mp hp with z | z
    · exact h p z
    · exact r.gh p z, r.slot, r.apart⟩
theorem RepL.all {Kf : PySem.W.Frag} {w : World} {g : G} {H : Hp} {F : Addr → Prop} : ∀ {ds : List D} {vs : List V}, RepL Kf w g H F ds vs → ∀ p ∈ ds.zip vs, Rep Kf w g H F p.1 p.2
  | [], vs, _, p, hp => by cases hp
  | d :: ds, vs, ⟨v, r, e, h1, h2⟩, p, hp => by
    subst e
    rw [List.zip_cons_cons] at hp
    rcases List.mem_cons.mp hp with z | z
    · subst z
      exact h1
    · exact RepL.all h2 p z
theorem itOk_keysO {Kf : PySem.W.Frag} {w : World} {g : G} {a : Addr} {ks : List D} {kv : Obj × List V} {vs : List V} (h1 : ks.length = kv.2.length) (h2 : ks.length = vs.length) : ItOk Kf w g (ItO Prod.fst a (ents w ks kv vs)) ((.pin a (dO a (ents w ks kv vs)), .ref a) :: ks.zip kv.2) ks where
  go := fun W H σ ρ i hg r h hi => by
    obtain ⟨_, _, q⟩ := r.gh _ (h _ List.mem_cons_self)
    exact ⟨q, by show i < (entL w ks kv.2 vs).length; rw [ents_len h1 h2]; exact hi⟩
  yld := fun W H σ ρ i x H' d hg r h hi y => by
    obtain ⟨e2, t, ht, ev⟩ := y
    subst e2
    obtain ⟨k, e3, e4, _⟩ := ents_get (show (entL w ks kv.2 vs)[i]? = some t from ht)
    rw [hi] at e3
    cases e3
    refine ⟨.refl _, ?_⟩
    rw [ev]
    exact r.gh (d, t.2.1) (h _ (List.mem_cons_of_mem _ (List.mem_of_getElem? (List.getElem?_zip_eq_some.mpr ⟨hi, e4⟩))))
  stop := fun W H σ ρ i hg r h hi => by
    have hi := Nat.le_of_eq hi
    obtain ⟨_, _, q⟩ := r.gh _ (h _ List.mem_cons_self)
    exact ⟨q, by show (entL w ks kv.2 vs).length ≤ i; rw [ents_len h1 h2]; exact hi⟩
theorem itOk_valsO {Kf : PySem.W.Frag} {w : World} {g : G} {a : Addr} {ks ds : List D} {kv : Obj × List V} {vs : List V} (h1 : ks.length = kv.2.length) (h2 : ks.length = vs.length) (h3 : ks.length = ds.length) : ItOk Kf w g (ItO Prod.snd a (ents w ks kv vs)) ((.pin a (dO a (ents w ks kv vs)), .ref a) :: ds.zip vs) ds where
  go := fun W H σ ρ i hg r h hi => by
    obtain ⟨_, _, q⟩ := r.gh _ (h _ List.mem_cons_self)
    exact ⟨q, by show i < (entL w ks kv.2 vs).length; rw [ents_len h1 h2, h3]; exact hi⟩
  yld := fun W H σ ρ i x H' d hg r h hi y => by
    obtain ⟨e2, t, ht, ev⟩ := y
    subst e2
    obtain ⟨k, e3, e4, e5, _⟩ := ents_get (show (entL w ks kv.2 vs)[i]? = some t from ht)
    refine ⟨.refl _, ?_⟩
    rw [ev]
    exact r.gh (d, t.2.2) (h _ (List.mem_cons_of_mem _ (List.mem_of_getElem? (List.getElem?_zip_eq_some.mpr ⟨hi, e5⟩))))
  stop := fun W H σ ρ i hg r h hi => by
    have hi := Nat.le_of_eq hi
    obtain ⟨_, _, q⟩ := r.gh _ (h _ List.mem_cons_self)
    exact ⟨q, by show (entL w ks kv.2 vs).length ≤ i; rw [ents_len h1 h2, h3]; exact hi⟩
/-- for k in d -/
theorem si_dict (h : SE X W ρ e fun n d => ∃ ks ds, d = .dct ks ds ∧ K n ks) : SI X W ρ tg e K :=
  ⟨_, pi_keysO (pe_X (W := W) (ρ := ρ)), fun σ H R r f => ⟨ρ.n, r, _, h, fun v H1 n d s1 r1 p1 ⟨ks, ds, e, k⟩ => by
    subst e
    obtain ⟨a, kv, vs, e, nf, q, rk, rv, dk, hl⟩ := id p1
    subst e
    have l1 := rk.length
    have l2 : ks.length = vs.length := hl.trans rv.length
    refine ⟨a, _, rfl, q, f _ H1 n ks _ s1 (r1.holds fun p hp => ?_) (itOk_keysO l1 l2) k⟩
    rcases List.mem_cons.mp hp with z | z
    · subst z
      exact ⟨rfl, nf, q⟩
    · exact rk.all p z⟩⟩
/-- for v in d.values() -/
theorem si_values (h : SE X W ρ e fun n d => ∃ ks ds, d = .dct ks ds ∧ K n ds) (hbase : attributeBase e "values" X.env (eval e X.env) = eval e X.env := by rfl) (hline : (apos.endLine == cpos.line) = true := by rfl) : SI X W ρ tg (.Call (.Attribute e "values" apos) [] [] cpos) K :=
  ⟨_, pi_valuesO (pe_X (W := W) (ρ := ρ)) hbase hline, fun σ H R r f => ⟨ρ.n, r, _, h, fun v H1 n d s1 r1 p1 ⟨ks, ds, e, k⟩ => by
    subst e
    obtain ⟨a, kv, vs, e, nf, q, rk, rv, dk, hl⟩ := id p1
    subst e
    have l1 := rk.length
    have l2 : ks.length = vs.length := hl.trans rv.length
    refine ⟨a, _, rfl, q, f _ H1 n ds _ s1 (r1.holds fun p hp => ?_) (itOk_valsO l1 l2 hl) k⟩
    rcases List.mem_cons.mp hp with z | z
    · subst z
      exact ⟨rfl, nf, q⟩
    · exact rv.all p z⟩⟩
/-- for sign in text -/
def signsD (x : Str) : List D := x.cps.toList.map fun c => .str ⟨#[c]⟩
theorem itOk_str {Kf : PySem.W.Frag} {w : World} {g : G} {x : Str} : ItOk Kf w g (Its x) [] (signsD x) where
  go := fun W H σ ρ i hg r h hi => by
    unfold signsD at hi
    rw [List.length_map, Array.length_toList] at hi
    exact hi
  yld := fun W H σ ρ i v H' d hg r h hi y => by
    obtain ⟨e2, c, hc, ev⟩ := y
    subst e2 ev
    unfold signsD at hi
    rw [List.getElem?_map, Array.getElem?_toList, hc] at hi
    cases hi
    exact ⟨.refl _, rfl⟩
  stop := fun W H σ ρ i hg r h hi => by
    have hi := Nat.le_of_eq hi
    unfold signsD at hi
    rw [List.length_map, Array.length_toList] at hi
    exact hi
theorem si_str (h : SE X W ρ e fun n d => ∃ x, d = .str x ∧ K n (signsD x)) : SI X W ρ tg e K :=
  ⟨_, pi_str (pe_X (W := W) (ρ := ρ)), fun σ H R r f => ⟨ρ.n, r, _, h, fun v H1 n d s1 r1 p1 ⟨x, e, k⟩ => by
    subst e
    exact ⟨x, p1, f _ H1 n _ [] s1 r1 itOk_str k⟩⟩⟩
end
end Sk
set_option maxHeartbeats 4000000
/-! S15: zip and enumerate over lists and tuples. -/
namespace Sk
open PySem PySem.Spec PyProof.Rows L2
open AutoSeq1 (wpAny_loadPart')

/-- a tuple (b) or a list -/
def SqK (b : Bool) (K : PySem.W.Frag) (H : Hp) (a : Addr) (xs : List V) : Prop := if b = true then SqT K H a xs else SqL K H a xs
def ItIs (b : Bool) (h : Heap) (it a : Addr) (i : Nat) : Prop := if b = true then h.IsTupleIter it a i else h.IsListIter it a i
def ObIs (b : Bool) (h : Heap) (a : Addr) (its : Array Value) : Prop := if b = true then h.IsTuple a its else h.IsList a its
def itObj (b : Bool) (a : Addr) : Obj := if b = true then { cls := .type "tuple_iterator", data := .fields #[.ref a, .int 0 0] } else { cls := .type "list_iterator", data := .fields #[.ref a, .int 0 0] }
theorem ItIs.obj {b : Bool} {h : Heap} {it a : Addr} {i : Nat} (st : ItIs b h it a i) : ∃ o, h.get? it = some o ∧ ∀ v, o.data ≠ .cell v := by
  cases b with
  | true =>
    obtain ⟨o, e, _, d⟩ := (show h.IsTupleIter it a i from st)
    exact ⟨o, e, fun v q => by rw [d] at q; cases q⟩
  | false =>
    obtain ⟨o, e, _, d⟩ := (show h.IsListIter it a i from st)
    exact ⟨o, e, fun v q => by rw [d] at q; cases q⟩
theorem ItIs.at {b : Bool} {h h' : Heap} {it a : Addr} {i : Nat} (st : ItIs b h it a i) (k : ∀ o, h.get? it = some o → h'.get? it = some o) : ItIs b h' it a i := by
  cases b with
  | true => exact Heap.IsTupleIter.at (show h.IsTupleIter it a i from st) k
  | false => exact Heap.IsListIter.at (show h.IsListIter it a i from st) k
theorem ItIs.new {b : Bool} {h : Heap} {it a : Addr} (e : h.get? it = some (itObj b a)) : ItIs b h it a 0 := by
  cases b with
  | true => exact ⟨_, e, rfl, rfl⟩
  | false => exact ⟨_, e, rfl, rfl⟩
section
variable {X : Cx} {pins : List (Addr × Obj)} {σ : L2.St} {H : Hp} {s : Shared}
theorem sqK_open {b : Bool} {a : Addr} {xs : List V} (I : Inv X pins σ H s) (h : SqK b X.K H a xs) : ∃ its : List Value, Vals xs its ∧ ObIs b s.heap a its.toArray ∧ ∃ o, s.heap.get? a = some o := by
  cases b with
  | true =>
    obtain ⟨its, rv, p, _⟩ := I.tuple (show SqT X.K H a xs from h)
    obtain ⟨o, e, _⟩ := id p
    exact ⟨its, rv, p, o, e⟩
  | false =>
    obtain ⟨its, rv, p, _⟩ := I.list (show SqL X.K H a xs from h)
    obtain ⟨o, n, e, _⟩ := id p
    exact ⟨its, rv, p.isList, o, e⟩
theorem sqK_inj {b : Bool} {a : Addr} {xs ys : List V} (I : Inv X pins σ H s) (h : SqK b X.K H a xs) (h' : SqK b X.K H a ys) : xs = ys := by
  cases b with
  | true => exact I.tuple_inj (show SqT X.K H a xs from h) h'
  | false => exact I.list_inj (show SqL X.K H a xs from h) h'
end
theorem drawsK {prog : Program} {w : World} {A : Around} (b : Bool) (hh : A.handled = none) (it a : Addr) (hne : a ≠ it) (items : Array Value) :
    Draws prog w A it [it, a] items.size (fun i v => items[i]? = some v) (fun i h => ItIs b h it a i ∧ ObIs b h a items) := by
  cases b with
  | true => exact Draws.tuple hh it a hne items
  | false => exact Draws.list hh it a hne items
theorem beginsK (b : Bool) (a : Addr) (items : Array Value) : Begins (.ref a) (itObj b a) fun h => ObIs b h a items := by
  cases b with
  | true => exact begins_tuple a items
  | false => exact begins_list a items

/-! ### zip -/
def ItzK (b1 b2 : Bool) (K : PySem.W.Frag) (a b : Addr) : It :=
  ⟨fun i H => ∃ (xs ys : List V) (x y : V), SqK b1 K H a xs ∧ SqK b2 K H b ys ∧ xs[i]? = some x ∧ ys[i]? = some y,
    fun i H v H' => ∃ T x y, v = .ref T ∧ H T = none ∧ H' = upd H T (.tup [x, y]) ∧ (∀ xs, SqK b1 K H a xs → xs[i]? = some x) ∧ ∀ ys, SqK b2 K H b ys → ys[i]? = some y,
    fun i H => ∃ xs ys : List V, SqK b1 K H a xs ∧ SqK b2 K H b ys ∧ i = min xs.length ys.length⟩
theorem turn_zipK {P : Program} {w : World} {K : PySem.W.Frag} {elts : List Expr} {kk : Nat} {tpos : Pos} {b1 b2 : Bool} {a b z TI TO i1 i2 : Addr} (S : ZipSep2 z TI TO i1 i2 [i1, a] [i2, b]) (n1 : a ≠ i1) (n2 : b ≠ i2) :
    Turn P w K (.Tuple elts kk tpos) (ItzK b1 b2 K a b) [z, TI, TO, i1, i2] z (fun i h => IsZip h z TI TO .none ∧ IsTupOf2 h TI (.ref i1) (.ref i2) ∧ (∃ x y, IsTupOf2 h TO x y) ∧ ItIs b1 h i1 a i ∧ ItIs b2 h i2 b i) where
  mem := by simp
  obj := fun i h st c hc => by
    obtain ⟨hz, hTI, ⟨x, y, hTO⟩, h1, h2⟩ := st
    have e' : c = z ∨ c = TI ∨ c = TO ∨ c = i1 ∨ c = i2 := by simpa using hc
    rcases e' with q | q | q | q | q
    · rw [q]; exact ⟨_, hz, fun v q => nomatch q⟩
    · rw [q]; exact ⟨_, hTI, fun v q => nomatch q⟩
    · rw [q]; exact ⟨_, hTO, fun v q => nomatch q⟩
    · rw [q]; exact h1.obj
    · rw [q]; exact h2.obj
  keep := fun i h h' st k => by
    obtain ⟨hz, hTI, ⟨x, y, hTO⟩, h1, h2⟩ := st
    exact ⟨k z (by simp) _ hz, k TI (by simp) _ hTI, ⟨x, y, k TO (by simp) _ hTO⟩, h1.at fun o q => k i1 (by simp) o q, h2.at fun o q => k i2 (by simp) o q⟩
  item := by
    intro X hP hw hK hc i pins s σ H E I hf st hg
    subst hP hw hK
    obtain ⟨hz, hTI, hTO, h1, h2⟩ := st
    obtain ⟨xs, ys, x, y, hqx, hqy, hx, hy⟩ := hg
    obtain ⟨its, rv, p, _⟩ := sqK_open I hqx
    obtain ⟨its2, rv2, p2, _⟩ := sqK_open I hqy
    obtain ⟨u, hu, ru⟩ := rv.get hx
    obtain ⟨u2, hu2, ru2⟩ := rv2.get hy
    have hh : X.A.in1.handled = none := I.ok.hd hc
    have W := GoesN.zip2 (prog := X.prog) (w := X.w) (A := X.A) (elts := elts) (x1 := kk) (pos := tpos) S (drawsK b1 hh i1 a n1 its.toArray) (drawsK b2 hh i2 b n2 its2.toArray)
    have lt1 : i < its.length := (List.getElem?_eq_some_iff.mp hu).1
    have lt2 : i < its2.length := (List.getElem?_eq_some_iff.mp hu2).1
    have live : ∀ c ∈ [z, TI, TO, i1, i2], c < s.heap.objs.size := fun c hcm => by
      have e' : c = z ∨ c = TI ∨ c = TO ∨ c = i1 ∨ c = i2 := by simpa using hcm
      obtain ⟨x0, y0, hTO⟩ := hTO
      rcases e' with q | q | q | q | q
      · rw [q]; exact Heap.lt_size hz
      · rw [q]; exact Heap.lt_size hTI
      · rw [q]; exact Heap.lt_size hTO
      · rw [q]; obtain ⟨_, e1, _⟩ := h1.obj; exact Heap.lt_size e1
      · rw [q]; obtain ⟨_, e2, _⟩ := h2.obj; exact Heap.lt_size e2
    refine W.goes i s (fun u s2 => ∃ x H', Inv X pins σ H' s2 ∧ RelV x u ∧ (ItzK b1 b2 X.K a b).yld i H x H' ∧ (IsZip s2.heap z TI TO .none ∧ IsTupOf2 s2.heap TI (.ref i1) (.ref i2) ∧ (∃ x y, IsTupOf2 s2.heap TO x y) ∧ ItIs b1 s2.heap i1 a (i + 1) ∧ ItIs b2 s2.heap i2 b (i + 1)) ∧ ∀ b ∈ [z, TI, TO, i1, i2], H' b = none) E (by simp only [List.size_toArray]; omega) ⟨hz, hTI, hTO, ⟨h1, p⟩, ⟨h2, p2⟩⟩ fun v h' tk hY st' hk htk => ?_
    obtain ⟨T, u', u2', ev, hT, hu', hu2', hTup⟩ := hY
    have eu : u' = u := by
      have : its[i]? = some u' := by simpa using hu'
      rw [hu] at this
      exact (Option.some.inj this).symm
    have eu2 : u2' = u2 := by
      have : its2[i]? = some u2' := by simpa using hu2'
      rw [hu2] at this
      exact (Option.some.inj this).symm
    subst ev eu eu2
    obtain ⟨hz', hTI', hTO', ⟨h1', _⟩, ⟨h2', _⟩⟩ := st'
    have new : ObjOk X.prog X.w (upd H T (.tup [x, y])) h' T (.tup [x, y]) := by
      obtain ⟨o, eo, co, no, dO'⟩ := hTup
      exact ⟨by show 2 ≤ sizeLine; decide, [u', u2'], .cons ru (.cons ru2 .nil), ⟨o, eo, co, no, dO'⟩⟩
    have I1 : Inv X pins σ (upd H T (.tup [x, y])) { s with heap := h', toks := tk } :=
      I.turnedNew (t' := tk) (ch := [z, TI, TO, i1, i2]) (fun c o hb q => hk c o (fun q' => hb (by
        have e' : c = z ∨ c = TO ∨ c = i1 ∨ c = i2 := by simpa using q'
        rcases e' with q | q | q | q <;> simp [q])) q) hf hT new
    refine ⟨.ref T, _, I1, rfl, ⟨T, x, y, rfl, I.hok.fresh hT, rfl, fun l hl => by rw [sqK_inj I hl hqx]; exact hx, fun l hl => by rw [sqK_inj I hl hqy]; exact hy⟩, ⟨hz', hTI', hTO', h1', h2'⟩, fun c hcm => ?_⟩
    rw [upd_ne (Nat.ne_of_lt (Nat.lt_of_lt_of_le (live c hcm) hT))]
    exact (hf c hcm).1
  done := by
    intro X hP hw hK hc i pins s σ H E I hf st hg
    subst hP hw hK
    obtain ⟨hz, hTI, hTO, h1, h2⟩ := st
    obtain ⟨xs, ys, hqx, hqy, hend⟩ := hg
    obtain ⟨its, rv, p, _⟩ := sqK_open I hqx
    obtain ⟨its2, rv2, p2, _⟩ := sqK_open I hqy
    have hh : X.A.in1.handled = none := I.ok.hd hc
    have W := GoesN.zip2 (prog := X.prog) (w := X.w) (A := X.A) (elts := elts) (x1 := kk) (pos := tpos) S (drawsK b1 hh i1 a n1 its.toArray) (drawsK b2 hh i2 b n2 its2.toArray)
    have en : i = min its.toArray.size its2.toArray.size := by
      rw [hend, rv.length, rv2.length]
      simp
    subst en
    exact W.stops s (fun s1 => Inv X pins σ H s1) E ⟨hz, hTI, hTO, ⟨h1, p⟩, ⟨h2, p2⟩⟩ fun h' tk hk htk => I.turnedL (t' := tk) (ch := [z, TI, TO, i1, i2]) (fun c o hb q => hk c o (fun q' => hb (by
        have e' : c = z ∨ c = TO ∨ c = i1 ∨ c = i2 := by simpa using q'
        rcases e' with q | q | q | q <;> simp [q])) q) hf
  self := fun A i s Q E st h => wpAny_pyIter_zip st.1 h
def iZipK (K : PySem.W.Frag) (ta : TA) : TI := fun σ H R => ta σ H fun vs H1 => ∃ (b1 b2 : Bool) (a b : Addr) (xs ys : List V), vs = [.ref a, .ref b] ∧ SqK b1 K H1 a xs ∧ SqK b2 K H1 b ys ∧ R (ItzK b1 b2 K a b) H1
theorem pi_zipK {X : Cx} {e e2 : Expr} {ta : TA} {p pos tpos : Pos} {elts : List Expr} {kk : Nat} (hg : Gl X "zip") (hm : X.mg "zip" = none) (ha : PA X [e, e2] ta)
    (hs : starEach [e, e2] X.env = (false, eval e X.env) :: starEach [e2] X.env := by rfl) (hpl : (backTo pos (starEach [e2] X.env)).any (·.1) = false := by rfl) :
    PI X (.Tuple elts kk tpos) (.Call (.Name "zip" p) [e, e2] [] pos) (iZipK X.K ta) := by
  refine ⟨fun pins s σ H R I h => ?_⟩
  refine Call_ (ld_blt I hg hm PyProof.Rows.boot_zip (PyProof.Rows.callWith_type1 (thn (ha.run pos pins s σ H _ I h) fun us s1 ⟨vs, H1, I1, r1, q1⟩ => ?_) hs hpl))
  obtain ⟨b1, b2, a, b, xs, ys, ex, hqx, hqy, q⟩ := q1
  subst ex
  obtain ⟨u1, u2, e3, ry, rz⟩ := vals2 r1
  subst e3
  cases ry
  cases rz
  obtain ⟨its, rv, p1, o1, ho1⟩ := sqK_open I1 hqx
  obtain ⟨its2, rv2, p2, o2, ho2⟩ := sqK_open I1 hqy
  have la : a < s1.heap.objs.size := Heap.lt_size ho1
  have lb : b < s1.heap.objs.size := Heap.lt_size ho2
  refine zip_begins2 (beginsK b1 a its.toArray) (beginsK b2 b its2.toArray) p1 p2 fun h' hz hTI hTO h1 h2 hsz hk => wpAny_pyIter_zip hz ?_
  have I2 : Inv X pins σ H1 { s1 with heap := h' } := I1.kept (t' := s1.toks) hk
  refine ⟨s1.heap.objs.size + 4, [s1.heap.objs.size + 4, s1.heap.objs.size + 2, s1.heap.objs.size + 3, s1.heap.objs.size, s1.heap.objs.size + 1], _, _, H1, rfl, I2, turn_zipK (b1 := b1) (b2 := b2) (a := a) (b := b) ?_ (Nat.ne_of_lt la) (Nat.ne_of_lt (Nat.lt_succ_of_lt lb)), ⟨hz, hTI, ⟨_, _, hTO⟩, .new h1, .new h2⟩, fun c hcm => ?_, q⟩
  · have la' : @LT.lt Nat _ a s1.heap.objs.size := la
    have lb' : @LT.lt Nat _ b s1.heap.objs.size := lb
    refine ⟨by show @Ne Nat _ _; omega, by show @Ne Nat _ _; omega, by show @Ne Nat _ _; omega, by show @Ne Nat _ _; omega, by simp, ?_, ?_, by show @Ne Nat _ _; omega, by simp, ?_, ?_, ?_, ?_⟩ <;> simp only [List.mem_cons, List.not_mem_nil, or_false, not_or] <;> refine ⟨?_, ?_⟩ <;> (show ¬ @Eq Nat _ _) <;> omega
  · have e' : c = s1.heap.objs.size + 4 ∨ c = s1.heap.objs.size + 2 ∨ c = s1.heap.objs.size + 3 ∨ c = s1.heap.objs.size ∨ c = s1.heap.objs.size + 1 := by simpa using hcm
    have hle : s1.heap.objs.size ≤ c := by
      rcases e' with z | z | z | z | z
      · rw [z]; exact Nat.le_add_right _ _
      · rw [z]; exact Nat.le_add_right _ _
      · rw [z]; exact Nat.le_add_right _ _
      · rw [z]; exact Nat.le_refl _
      · rw [z]; exact Nat.le_add_right _ _
    exact I1.fpOk hle (I1.hok.fresh hle)
end Sk
set_option maxHeartbeats 4000000
/-! S16: enumerate; zip and enumerate told of data. -/
namespace Sk
open PySem PySem.Spec PyProof.Rows L2
open AutoSeq1 (wpAny_loadPart')

theorem meets_enum1 {v : Value} {o : Obj} {H : Heap → Prop} (B : Begins v o H) :
    Meets (Builtin.«enumerate.__new__» ⟨[.type "enumerate", v], []⟩) (fun _ R s => H s.heap ∧
      R (.ok (.ret (.ref (s.heap.push o).objs.size))) { s with heap := (s.heap.push o).push { cls := .type "enumerate", data := .fields #[.none, .bool false, .ref s.heap.objs.size, rawInt 0, .none, .none] } }) :=
  .of_wp fun prog w A R s h => by
    obtain ⟨hp, g, d, tk, os⟩ := s
    obtain ⟨h1, h⟩ := h
    have hsub := sub_enumerate
    have q1 : ∀ {A' : Around} {E : Value → Shared → Prop} {Q : Value → Shared → Prop}, Q (.ref hp.objs.size) ⟨hp.push o, g, d, tk, os⟩ → wpAny (model prog w) A' (pyIter v) Q E ⟨hp, g, d, tk, os⟩ :=
      fun q => B.iter prog w _ _ ⟨hp, g, d, tk, os⟩ _ h1 q
    wp_walk using q1
    refine wpAny_stack_any fun st => wpAny_pure ?_
    split
    · rename_i c _ _ _ _ _
      cases (c == Value.type "enumerate")
      · wp_walk using q1
        exact ⟨_, rfl, h⟩
      · wp_walk using q1
        exact ⟨_, rfl, h⟩
    · wp_walk using q1
      exact ⟨_, rfl, h⟩
theorem call_enum1 {prog : Program} {w : World} {A : Around} {E : Value → Shared → Prop} {s : Shared} {v : Value} {o : Obj} {H : Heap → Prop} {Q : Value → Shared → Prop} (B : Begins v o H) (h1 : H s.heap)
    (h : ∀ h', IsEnum h' (s.heap.objs.size + 1) s.heap.objs.size 0 .none → h'.get? s.heap.objs.size = some o → h'.objs.size = s.heap.objs.size + 2 →
      (∀ b o, s.heap.get? b = some o → h'.get? b = some o) → Q (.ref (s.heap.objs.size + 1)) { s with heap := h' }) :
    wpAny (model prog w) A (call (.type "enumerate") [v]) Q E s := by
  refine callType_new F.called_enumerate (by decide) (F.typeCall_enumerate_1 _) (F.newCall_enumerate_1 _) (fun obj => F.args_object_init_2 obj _) F.entry_enumerate_new
    (meets_enum1 B) ⟨h1, ?_⟩
  have hz : (s.heap.push o).objs.size = s.heap.objs.size + 1 := Heap.size_push ..
  show _ ∧ _
  rw [hz]
  have he : IsEnum ((s.heap.push o).push { cls := .type "enumerate", data := .fields #[.none, .bool false, .ref s.heap.objs.size, rawInt 0, .none, .none] }) (s.heap.objs.size + 1) s.heap.objs.size 0 .none := by
    have := Heap.get?_push_size (s.heap.push o) (o := { cls := .type "enumerate", data := .fields #[.none, .bool false, .ref s.heap.objs.size, rawInt 0, .none, .none] }) rfl
    rw [hz] at this
    exact this
  exact ⟨⟨_, he, rfl⟩, h _ he (Heap.get?_push_of_some _ (Heap.get?_push_size _ B.free)) (by rw [Heap.size_push, hz]) fun b o y => Heap.get?_push_of_some _ (Heap.get?_push_of_some _ y)⟩

def IteK (b : Bool) (K : PySem.W.Frag) (a : Addr) : It :=
  ⟨fun i H => ∃ (xs : List V) (x : V), SqK b K H a xs ∧ xs[i]? = some x, fun i H v H' => ∃ T x, v = .ref T ∧ H T = none ∧ H' = upd H T (.tup [.int (i : Nat), x]) ∧ ∀ xs, SqK b K H a xs → xs[i]? = some x, fun i H => ∃ xs : List V, SqK b K H a xs ∧ xs.length = i⟩
theorem turn_enumK {P : Program} {w : World} {K : PySem.W.Frag} {elts : List Expr} {kk : Nat} {tpos : Pos} {b : Bool} {a e it : Addr} (h1 : e ≠ it) (h2 : a ≠ e) (h3 : a ≠ it) :
    Turn P w K (.Tuple elts kk tpos) (IteK b K a) [e, it] e (fun i h => (∃ old, IsEnum h e it ((i : Nat) : Int) old) ∧ ItIs b h it a i) where
  mem := by simp
  obj := fun i h st c hb => by
    obtain ⟨⟨old, he⟩, hi⟩ := st
    have e' : c = e ∨ c = it := by simpa using hb
    rcases e' with z | z
    · rw [z]; exact ⟨_, he, fun v q => nomatch q⟩
    · rw [z]; exact hi.obj
  keep := fun i h h' st k => let ⟨⟨old, he⟩, hi⟩ := st; ⟨⟨old, k e (by simp) _ he⟩, hi.at fun o q => k it (by simp) o q⟩
  item := by
    intro X hP hw hK hc i pins s σ H E I hf st hg
    subst hP hw hK
    obtain ⟨he, hit⟩ := st
    obtain ⟨xs, x, hq, hx⟩ := hg
    obtain ⟨its, rv, p, _⟩ := sqK_open I hq
    obtain ⟨u, hu, ru⟩ := rv.get hx
    have hh : X.A.in1.handled = none := I.ok.hd hc
    have W := GoesN.ofWalksT (elts := elts) (k := kk) (pos := tpos) (WalksT.enumerateD (prog := X.prog) (w := X.w) (A := X.A) (drawsK b hh it a h3 its.toArray) e h1 (by simp only [List.mem_cons, List.not_mem_nil, or_false, not_or]; exact ⟨h1, Ne.symm h2⟩) (by simp))
    have lt1 : i < its.length := (List.getElem?_eq_some_iff.mp hu).1
    have live : ∀ c ∈ [e, it], c < s.heap.objs.size := fun c hcm => by
      have e' : c = e ∨ c = it := by simpa using hcm
      obtain ⟨old, he⟩ := he
      rcases e' with q | q
      · rw [q]; exact Heap.lt_size he
      · rw [q]; obtain ⟨_, e1, _⟩ := hit.obj; exact Heap.lt_size e1
    refine W.goes i s (fun u s2 => ∃ x H', Inv X pins σ H' s2 ∧ RelV x u ∧ (IteK b X.K a).yld i H x H' ∧ ((∃ old, IsEnum s2.heap e it ((i + 1 : Nat) : Int) old) ∧ ItIs b s2.heap it a (i + 1)) ∧ ∀ b ∈ [e, it], H' b = none) E (by simp only [List.size_toArray]; omega) ⟨he, hit, p⟩ fun v h' tk hY st' hk htk => ?_
    obtain ⟨T, vals, ev, hT, ⟨t, u', hu', evs⟩, hTup⟩ := hY
    have eu : u' = u := by
      have : its[i]? = some u' := by simpa using hu'
      rw [hu] at this
      exact (Option.some.inj this).symm
    subst ev eu evs
    obtain ⟨he', h1', _⟩ := st'
    have new : ObjOk X.prog X.w (upd H T (.tup [.int (i : Nat), x])) h' T (.tup [.int (i : Nat), x]) := by
      obtain ⟨o, eo, co, no, dO'⟩ := hTup
      exact ⟨by show 2 ≤ sizeLine; decide, [.int i t, u'], .cons ⟨_, rfl⟩ (.cons ru .nil), ⟨o, eo, co, no, dO'⟩⟩
    have I1 : Inv X pins σ (upd H T (.tup [.int (i : Nat), x])) { s with heap := h', toks := tk } :=
      I.turnedNew (t' := tk) (ch := [e, it]) (fun c o hb q => hk c o hb q) hf hT new
    refine ⟨.ref T, _, I1, rfl, ⟨T, x, rfl, I.hok.fresh hT, rfl, fun l hl => by rw [sqK_inj I hl hq]; exact hx⟩, ⟨he', h1'⟩, fun c hcm => ?_⟩
    rw [upd_ne (Nat.ne_of_lt (Nat.lt_of_lt_of_le (live c hcm) hT))]
    exact (hf c hcm).1
  done := by
    intro X hP hw hK hc i pins s σ H E I hf st hg
    subst hP hw hK
    obtain ⟨he, hit⟩ := st
    obtain ⟨xs, hq, hend⟩ := hg
    obtain ⟨its, rv, p, _⟩ := sqK_open I hq
    have hh : X.A.in1.handled = none := I.ok.hd hc
    have W := GoesN.ofWalksT (elts := elts) (k := kk) (pos := tpos) (WalksT.enumerateD (prog := X.prog) (w := X.w) (A := X.A) (drawsK b hh it a h3 its.toArray) e h1 (by simp only [List.mem_cons, List.not_mem_nil, or_false, not_or]; exact ⟨h1, Ne.symm h2⟩) (by simp))
    have en : i = its.toArray.size := by
      rw [← hend, rv.length]
      simp
    subst en
    exact W.stops s (fun s1 => Inv X pins σ H s1) E ⟨he, hit, p⟩ fun h' tk hk htk => I.turnedL (t' := tk) (ch := [e, it]) (fun c o hb q => hk c o hb q) hf
  self := fun A i s Q E st h => let ⟨⟨_, he⟩, _⟩ := st; wpAny_pyIter_enum he h
def iEnumK (K : PySem.W.Frag) (ta : TA) : TI := fun σ H R => ta σ H fun vs H1 => ∃ (b : Bool) (a : Addr) (xs : List V), vs = [.ref a] ∧ SqK b K H1 a xs ∧ R (IteK b K a) H1
theorem pi_enumK {X : Cx} {e : Expr} {ta : TA} {p pos tpos : Pos} {elts : List Expr} {kk : Nat} (hg : Gl X "enumerate") (hm : X.mg "enumerate" = none) (ha : PA X [e] ta) (hs : starEach [e] X.env = [(false, eval e X.env)] := by rfl) :
    PI X (.Tuple elts kk tpos) (.Call (.Name "enumerate" p) [e] [] pos) (iEnumK X.K ta) := by
  refine ⟨fun pins s σ H R I h => ?_⟩
  refine Call_ (ld_blt I hg hm boot_enumerate (PyProof.Rows.callWith_type1 (thn (ha.run pos pins s σ H _ I h) fun us s1 ⟨vs, H1, I1, r1, q1⟩ => ?_) hs rfl))
  obtain ⟨b, a, xs, ex, hq, q⟩ := q1
  subst ex
  cases r1 with
  | cons r rr =>
    cases rr
    cases r
    obtain ⟨its, rv, p', o, ho⟩ := sqK_open I1 hq
    have la : @LT.lt Nat _ a s1.heap.objs.size := Heap.lt_size ho
    refine call_enum1 (beginsK b a its.toArray) p' fun h' he hit hsz hk => wpAny_pyIter_enum he ?_
    have I2 : Inv X pins σ H1 { s1 with heap := h' } := I1.kept (t' := s1.toks) hk
    refine ⟨s1.heap.objs.size + 1, [s1.heap.objs.size + 1, s1.heap.objs.size], _, _, H1, rfl, I2, turn_enumK (b := b) (a := a) (Nat.succ_ne_self _) (by show @Ne Nat _ _; omega) (by show @Ne Nat _ _; omega), ⟨⟨.none, he⟩, .new hit⟩, fun b hb => ?_, q⟩
    have e' : b = s1.heap.objs.size + 1 ∨ b = s1.heap.objs.size := by simpa using hb
    have hle : s1.heap.objs.size ≤ b := by
      rcases e' with z | z
      · rw [z]; exact Nat.le_add_right _ _
      · rw [z]; exact Nat.le_refl _
    exact I1.fpOk hle (I1.hok.fresh hle)

/-! ### told of data -/
def D.seq : Bool → List D → D
  | true, ds => .tup ds
  | false, ds => .lst ds
theorem rep_seq {Kf : PySem.W.Frag} {w : World} {g : G} {H : Hp} {F : Addr → Prop} {b : Bool} {ds : List D} {v : V} (h : Rep Kf w g H F (D.seq b ds) v) : ∃ a vs, v = .ref a ∧ SqK b Kf H a vs ∧ RepL Kf w g H F ds vs := by
  cases b with
  | true =>
    obtain ⟨a, vs, e, q, rl⟩ := h
    exact ⟨a, vs, e, q, rl⟩
  | false =>
    obtain ⟨a, vs, e, _, q, rl⟩ := h
    exact ⟨a, vs, e, (show SqL Kf H a vs from .of q), rl⟩
def zipD (xs ys : List D) : List D := (xs.zip ys).map fun p => .tup [p.1, p.2]
def enumD (xs : List D) : List D := xs.zipIdx.map fun p => .tup [.int (p.2 : Nat), p.1]
section
variable {X : Cx} {W : Fm} {ρ : En} {K : Nat → List D → Prop} {e e2 : Expr} {p pos tpos : Pos} {elts : List Expr} {kk : Nat}
theorem itOk_zip {Kf : PySem.W.Frag} {w : World} {g : G} {b1 b2 : Bool} {a b : Addr} {xs ys : List D} : ItOk Kf w g (ItzK b1 b2 Kf a b) [(D.seq b1 xs, .ref a), (D.seq b2 ys, .ref b)] (zipD xs ys) where
  go := fun W H σ ρ i hg r h hi => by
    obtain ⟨a1, us, e1, q1, rl1⟩ := rep_seq (r.gh _ (h _ List.mem_cons_self))
    obtain ⟨a2, us2, e2, q2, rl2⟩ := rep_seq (r.gh _ (h _ (List.mem_cons_of_mem _ List.mem_cons_self)))
    cases e1
    cases e2
    unfold zipD at hi
    rw [List.length_map, List.length_zip] at hi
    have l1 : i < xs.length := by omega
    have l2 : i < ys.length := by omega
    obtain ⟨u, hu, _⟩ := rl1.get (List.getElem?_eq_getElem l1)
    obtain ⟨u2, hu2, _⟩ := rl2.get (List.getElem?_eq_getElem l2)
    exact ⟨us, us2, u, u2, q1, q2, hu, hu2⟩
  yld := fun W H σ ρ i v H' d hg r h hi y => by
    obtain ⟨a1, us, e1, q1, rl1⟩ := rep_seq (r.gh _ (h _ List.mem_cons_self))
    obtain ⟨a2, us2, e2, q2, rl2⟩ := rep_seq (r.gh _ (h _ (List.mem_cons_of_mem _ List.mem_cons_self)))
    cases e1
    cases e2
    obtain ⟨T, x, y', ev, hT, eH, f1, f2⟩ := y
    subst ev eH
    unfold zipD at hi
    rw [List.getElem?_map] at hi
    cases ez : (xs.zip ys)[i]? with
    | none => rw [ez] at hi; cases hi
    | some pr =>
      rw [ez] at hi
      cases hi
      obtain ⟨g1, g2⟩ := List.getElem?_zip_eq_some.mp ez
      obtain ⟨u, hu, hr⟩ := rl1.get g1
      obtain ⟨u2, hu2, hr2⟩ := rl2.get g2
      have e3 : x = u := Option.some.inj ((f1 us q1).symm.trans hu)
      have e4 : y' = u2 := Option.some.inj ((f2 us2 q2).symm.trans hu2)
      subst e3 e4
      refine ⟨same_new hT, T, [x, y'], rfl, .of upd_same, x, [y'], rfl, r.rep' (.of (same_new hT)) hr, y', [], rfl, r.rep' (.of (same_new hT)) hr2, rfl⟩
  stop := fun W H σ ρ i hg r h hi => by
    obtain ⟨a1, us, e1, q1, rl1⟩ := rep_seq (r.gh _ (h _ List.mem_cons_self))
    obtain ⟨a2, us2, e2, q2, rl2⟩ := rep_seq (r.gh _ (h _ (List.mem_cons_of_mem _ List.mem_cons_self)))
    cases e1
    cases e2
    refine ⟨us, us2, q1, q2, ?_⟩
    rw [← hi, ← rl1.length, ← rl2.length]
    unfold zipD
    rw [List.length_map, List.length_zip]
theorem si_zip (hm : X.mg "zip" = none) (h : SA X W ρ [e, e2] fun n ds => ∃ b1 b2 xs ys, ds = [D.seq b1 xs, D.seq b2 ys] ∧ K n (zipD xs ys)) (hg : Gl X "zip" := by rfl)
    (hs : starEach [e, e2] X.env = (false, eval e X.env) :: starEach [e2] X.env := by rfl) (hpl : (backTo pos (starEach [e2] X.env)).any (·.1) = false := by rfl) : SI X W ρ (.Tuple elts kk tpos) (.Call (.Name "zip" p) [e, e2] [] pos) K :=
  ⟨_, pi_zipK hg hm (pa_X (W := W) (ρ := ρ)) hs hpl, fun σ H R r f => ⟨ρ.n, r, _, h, fun vs H1 n ds s1 r1 p1 ⟨b1, b2, xs, ys, ed, k⟩ => by
    subst ed
    obtain ⟨v, r', e1, h1, v2, r2, e2, h2, e3⟩ := p1
    have e3' : r2 = [] := e3
    subst e1 e2 e3'
    obtain ⟨a, vs, ea, q1, rl1⟩ := rep_seq h1
    obtain ⟨b, us, eb, q2, rl2⟩ := rep_seq h2
    subst ea eb
    refine ⟨b1, b2, a, b, vs, us, rfl, q1, q2, f _ H1 n _ _ s1 (r1.holds fun p hp => ?_) itOk_zip k⟩
    rcases List.mem_cons.mp hp with z | z
    · subst z
      exact h1
    · rcases List.mem_cons.mp z with z | z
      · subst z
        exact h2
      · cases z⟩⟩
theorem itOk_enum {Kf : PySem.W.Frag} {w : World} {g : G} {b : Bool} {a : Addr} {xs : List D} : ItOk Kf w g (IteK b Kf a) [(D.seq b xs, .ref a)] (enumD xs) where
  go := fun W H σ ρ i hg r h hi => by
    obtain ⟨a1, us, e1, q1, rl1⟩ := rep_seq (r.gh _ (h _ List.mem_cons_self))
    cases e1
    unfold enumD at hi
    rw [List.length_map, List.length_zipIdx] at hi
    obtain ⟨u, hu, _⟩ := rl1.get (List.getElem?_eq_getElem hi)
    exact ⟨us, u, q1, hu⟩
  yld := fun W H σ ρ i v H' d hg r h hi y => by
    obtain ⟨a1, us, e1, q1, rl1⟩ := rep_seq (r.gh _ (h _ List.mem_cons_self))
    cases e1
    obtain ⟨T, x, ev, hT, eH, f1⟩ := y
    subst ev eH
    unfold enumD at hi
    rw [List.getElem?_map, List.getElem?_zipIdx] at hi
    cases ez : xs[i]? with
    | none => rw [ez] at hi; cases hi
    | some pr =>
      rw [ez] at hi
      cases hi
      obtain ⟨u, hu, hr⟩ := rl1.get ez
      have e3 : x = u := Option.some.inj ((f1 us q1).symm.trans hu)
      subst e3
      refine ⟨same_new hT, T, [.int (i : Nat), x], rfl, .of upd_same, .int (i : Nat), [x], rfl, ?_, x, [], rfl, r.rep' (.of (same_new hT)) hr, rfl⟩
      show V.int _ = V.int _
      simp
  stop := fun W H σ ρ i hg r h hi => by
    obtain ⟨a1, us, e1, q1, rl1⟩ := rep_seq (r.gh _ (h _ List.mem_cons_self))
    cases e1
    refine ⟨us, q1, ?_⟩
    rw [← hi, ← rl1.length]
    unfold enumD
    rw [List.length_map, List.length_zipIdx]
theorem si_enum (hm : X.mg "enumerate" = none) (h : SA X W ρ [e] fun n ds => ∃ b xs, ds = [D.seq b xs] ∧ K n (enumD xs)) (hg : Gl X "enumerate" := by rfl) (hs : starEach [e] X.env = [(false, eval e X.env)] := by rfl) : SI X W ρ (.Tuple elts kk tpos) (.Call (.Name "enumerate" p) [e] [] pos) K :=
  ⟨_, pi_enumK hg hm (pa_X (W := W) (ρ := ρ)) hs, fun σ H R r f => ⟨ρ.n, r, _, h, fun vs H1 n ds s1 r1 p1 ⟨b, xs, ed, k⟩ => by
    subst ed
    obtain ⟨v, r', e1, h1, e3⟩ := p1
    have e3' : r' = [] := e3
    subst e1 e3'
    obtain ⟨a, vs, ea, q1, rl1⟩ := rep_seq h1
    subst ea
    refine ⟨b, a, vs, rfl, q1, f _ H1 n _ _ s1 (r1.holds fun p hp => ?_) itOk_enum k⟩
    rcases List.mem_cons.mp hp with z | z
    · subst z
      exact h1
    · cases z⟩⟩
end
end Sk
set_option maxHeartbeats 4000000
/-! S17: len, isinstance. -/
namespace Sk
open PySem PySem.Spec PyProof.Rows L2

section
variable {prog : Program} {w : World} {A : Around} {E : Value → Shared → Prop} {s : Shared} {d : Addr} {es : Array DictEntry} {ep : Nat}
theorem raw_len {Q : Value → Shared → Prop} (hd : (d == sysModules) = false) (hm : s.heap.DictRaw d es ep) (hfit : (es.size : Int) < 2 ^ 63) (h : Q (.int es.size (s.toks + 1)) { s with toks := s.toks + 1 + 1 }) : wpAny (model prog w) A (call (.builtin "len") [.ref d]) Q E s := by
  refine Calls.call_function_entry kind_len plain_len entry_len (args_len1 _) ?_
  unfold Builtin.«len»
  refine wpAny_bind (m := oneArg "len" _) (wpAny_pure ?_)
  refine wpAny_bind (m := callSpecial? (.ref d) (Str.ofString "__len__")) (wpAny_callSpecial?_slot (name := Str.ofString "__len__") hm.typeIs F.slot_dict_len (call_len_raw hd hm ?_))
  show wpAny _ _ _ _ _ { s with toks := s.toks + 1 }
  refine wpAny_bind (wpAny_holding (wpAny_pure ?_))
  refine wpAny_bind (wpAny_letGo ?_)
  show wpAny _ _ (if ((es.size : Nat) : Int) < 0 then _ else _) _ _ _
  rw [if_neg (by omega)]
  show wpAny _ _ (if ((es.size : Nat) : Int) ≥ 2 ^ 63 then _ else _) _ _ _
  rw [if_neg (by omega)]
  exact wpAny_bind (wpAny_mkInt (wpAny_pure ⟨_, rfl, h⟩))
end
theorem call_lenO {X : Cx} : CallR X (.builtin "len") (fun xs H Q => ∃ (a : Addr) (x : Obj × List (Int × V × V)), xs = [.ref a] ∧ H a = some (dO a x) ∧ Q (.int (x.2.length : Nat)) H) := by
  intro pins s σ H xs us Q I r h
  obtain ⟨a, x, rfl, hp, q⟩ := h
  obtain ⟨u, rfl, rx⟩ := vals1 r
  obtain rfl : u = .ref a := rx
  obtain ⟨⟨hs, hz, h1, h2, es, ep, h3, h4⟩, _⟩ := (show ObjOk X.prog X.w H s.heap a (dO a x) from I.hok a _ hp)
  have hl : x.2.length = es.size := by rw [paired_len h4, Array.length_toList]
  refine raw_len hs ⟨_, h1, h2, h3⟩ (by rw [← hl]; rw [sizeLine_eq] at hz; omega) ?_
  rw [← hl]
  exact ⟨.int (x.2.length : Nat), H, I.tok _, ⟨_, rfl⟩, q⟩
section
variable {X : Cx} {W : Fm} {ρ : En} {K : Nat → D → Prop} {e c : Expr} {pos p1 p2 : Pos}
/-- how many -/
def D.size : D → Option Nat
  | .lst ds => some ds.length
  | .tup ds => some ds.length
  | .str x => if x.length ≤ sizeLine then some x.length else none
  | .dct ks _ => some ks.length
  | _ => none
theorem se_len (hm : X.mg "len" = none) (h : SB X W ρ e fun n d => ∃ k, d.size = some k ∧ K n (.int (k : Nat))) (hg : Gl X "len" := by rfl) (hs : starEach [e] X.env = (false, eval e X.env) :: starEach [] X.env := by rfl) : SE X W ρ (.Call (.Name "len" p1) [e] [] pos) K :=
  se_b1 (CallR.or call_len call_lenO) hm boot_len (h.imp fun n d ⟨k, ek, kk⟩ => by
    intro σ H v Q r p f
    cases d with
    | lst ds =>
      cases ek
      obtain ⟨a, vs, e1, _, q, rl⟩ := p
      refine .inl ⟨v, _, rfl, ?_, f.now r (d := .int _) rfl kk⟩
      rw [e1]
      exact .inl ⟨vs, .of q, rl.length⟩
    | tup ds =>
      cases ek
      obtain ⟨a, vs, e1, q, rl⟩ := p
      refine .inl ⟨v, _, rfl, ?_, f.now r (d := .int _) rfl kk⟩
      rw [e1]
      exact .inr ⟨vs, q, rl.length⟩
    | str x =>
      have ek : (if x.length ≤ sizeLine then some x.length else none) = some k := ek
      by_cases hx : x.length ≤ sizeLine
      · rw [if_pos hx] at ek
        cases ek
        refine .inl ⟨v, _, rfl, ?_, f.now r (d := .int _) rfl kk⟩
        rw [show v = .str x from p]
        exact ⟨hx, rfl⟩
      · rw [if_neg hx] at ek
        cases ek
    | dct ks ds =>
      cases ek
      obtain ⟨a, kv, vs, e1, _, q, rk, rv, dk, hl⟩ := p
      refine .inr ⟨a, _, by rw [e1], q, ?_⟩
      have el : (ents X.w ks kv vs).2.length = ks.length := ents_len rk.length (hl.trans rv.length)
      rw [el]
      exact f.now r (d := .int _) rfl kk
    | _ => cases ek) hg (hs := hs)

/-! ### isinstance -/
structure OwnC (K : PySem.W.Frag) (C : Addr) : Prop where
  cl : Cls K C
  ha : PySem.W.findIn K (.ref C) "__class__" = some (some (.builtin "object.__class__"))
  hn : PySem.W.specialIn K (.builtin "object.__class__") "__get__" = some (some (.builtin "getset_descriptor.__get__"))
  htk : PySem.W.takesIn K (.builtin "object.__class__") = some true
  hm : PySem.W.mroIn K C (.type "object") = some true
/-- the type of what stands for d -/
def TyD (K : PySem.W.Frag) (d : D) (t : Value) : Prop :=
  match d with
  | .non => t = .type "NoneType"
  | .bl _ => t = .type "bool"
  | .int _ => t = .type "int"
  | .str _ => t = .type "str"
  | .tup _ => t = .type "tuple"
  | .lst _ => t = .type "list"
  | .dct _ _ => t = .type "dict"
  | .obj c _ _ => t = .ref c ∧ OwnC K c
  | _ => False
theorem kit_D {pins : List (Addr × Obj)} {σ : L2.St} {H : Hp} {s : Shared} {g : G} {F : Addr → Prop} {d : D} {v : V} {u t : Value} (I : Inv X pins σ H s) (h : Rdv X.K X.w g H F d v) (rx : RelV v u) (ty : TyD X.K d t) :
    ∃ P : Heap → Prop, PySem.W.KitX X.K u t P ∧ P s.heap ∧ u ≠ .builtin "__main__.__loader__#opaque" := by
  cases d with
  | non =>
    rw [show t = .type "NoneType" from ty]
    exact kit_of I rx (.base (by rw [show v = .non from h]; exact .non))
  | bl b =>
    rw [show t = .type "bool" from ty]
    exact kit_of I rx (.base (by rw [show v = .bl b from h]; exact .bl b))
  | int b =>
    rw [show t = .type "int" from ty]
    exact kit_of I rx (.base (by rw [show v = .int b from h]; exact .int b))
  | str b =>
    rw [show t = .type "str" from ty]
    exact kit_of I rx (.base (by rw [show v = .str b from h]; exact .str b))
  | tup ds =>
    rw [show t = .type "tuple" from ty]
    obtain ⟨a, vs, e1, q, _⟩ := h
    subst e1
    rcases q with (q | ⟨o, q⟩) | ⟨o, its, n, hk, hc, _⟩
    · exact kit_of I rx (.base (.tup q))
    · exact kit_of I rx (.fTuple q)
    · exact kit_of I rx (.kTuple hk hc)
  | lst ds =>
    rw [show t = .type "list" from ty]
    obtain ⟨a, vs, e1, _, q, _⟩ := h
    subst e1
    exact kit_of I rx (.base (.lst q))
  | dct ks ds =>
    rw [show t = .type "dict" from ty]
    obtain ⟨a, kv, vs, e1, _, q, _⟩ := h
    subst e1
    obtain rfl : u = .ref a := rx
    obtain ⟨_, h1, h2, _⟩ := dO_open I q
    exact ⟨_, PySem.W.kitx_dict, ⟨_, h1, h2.1⟩, fun z => nomatch z⟩
  | obj c ns ds =>
    obtain ⟨et, o⟩ := (show t = .ref c ∧ OwnC X.K c from ty)
    subst et
    obtain ⟨a, dx, vs, e1, _, q, _⟩ := h
    subst e1
    exact kit_of I rx (.base (.ins q o.cl o.ha o.hn o.htk o.hm))
  | src => exact (show False from ty).elim
  | scr _ => exact (show False from ty).elim
  | pin _ _ => exact (show False from ty).elim
  | adr _ => exact (show False from ty).elim
def rIsD (X : Cx) : List V → Hp → VK → Prop := fun xs H Q => ∃ (g : G) (F : Addr → Prop) (d : D) (x c : V) (t u : Value) (b : Bool), xs = [x, c] ∧ ClsV c u ∧ Rdv X.K X.w g H F d x ∧ TyD X.K d t ∧ PySem.W.kitOne X.K t u = some b ∧ Q (.bl b) H
theorem call_isD : CallR X (.builtin "isinstance") (rIsD X) := by
  intro pins s σ H xs us Q I r h
  obtain ⟨g, F, d, x, c, t, u, b, rfl, k, hr, ty, e, q⟩ := h
  obtain ⟨u1, u2, rfl, r1, r2⟩ := vals2 r
  have e2 := k.eq r2
  subst e2
  obtain ⟨P, Z, p, hx⟩ := kit_D I hr r1 ty
  exact PySem.W.kia_one Z I.kIn p e hx fun tk => ⟨.bl b, H, I.tok tk, rfl, q⟩
def rIsDT (X : Cx) : List V → Hp → VK → Prop := fun xs H Q => ∃ (g : G) (F : Addr → Prop) (d : D) (x : V) (tp : Addr) (cs : List V) (t : Value) (us : List Value) (b : Bool), xs = [x, .ref tp] ∧ H tp = some (.tup cs) ∧ Paired ClsV cs us ∧ Rdv X.K X.w g H F d x ∧ TyD X.K d t ∧ PySem.W.kitAny X.K t us = some b ∧ Q (.bl b) H
theorem call_isDT : CallR X (.builtin "isinstance") (rIsDT X) := by
  intro pins s σ H xs us Q I r h
  obtain ⟨g, F, d, x, tp, cs, t, ws, b, rfl, hT, k, hr, ty, e, q⟩ := h
  obtain ⟨u1, u2, rfl, r1, r2⟩ := vals2 r
  cases (show u2 = Value.ref tp from r2)
  obtain ⟨P, Z, p, hx⟩ := kit_D I hr r1 ty
  obtain ⟨_, its, rv, o, h1, h2, n, h3⟩ := (show ObjOk X.prog X.w H s.heap tp (.tup cs) from I.hok tp _ hT)
  have e3 := ClsV.all k rv
  subst e3
  obtain ⟨oc, od, dt, sl⟩ := o
  simp only at h2 h3
  subst h2 h3
  exact PySem.W.kia_tup Z I.kIn p h1 e hx fun tk => ⟨.bl b, H, I.tok tk, rfl, q⟩
/-- isinstance(e, T), T a built-in type -/
theorem se_isB {T : Str} {n : String} (hi : X.mg "isinstance" = none) (hm : X.mg T = none) (hv : bootBuiltins T = some (.type n)) (h : SB X W ρ e fun m d => ∃ t b, TyD X.K d t ∧ PySem.W.kitOne X.K t (.type n) = some b ∧ K m (.bl b)) (hg : Gl X "isinstance" := by rfl) (hg2 : Gl X T := by rfl) (hn : T ≠ "__name__" := by decide)
    (hdb : (T == ("__debug__" : Str)) = false := by decide)
    (hs : starEach [e, .Name T p2] X.env = (false, eval e X.env) :: starEach [.Name T p2] X.env := by rfl) (hs2 : starEach [.Name T p2] X.env = (false, eval (.Name T p2) X.env) :: starEach [] X.env := by rfl) (hp : (backTo pos (starEach [.Name T p2] X.env)).any (·.1) = false := by rfl) : SE X W ρ (.Call (.Name "isinstance" p1) [e, .Name T p2] [] pos) K :=
  SE.of (pe_callB call_isD hg hi boot_isinstance (pa_cons (pe_XB (W := W) (ρ := ρ)) (pa_cons (pe_bltn hg2 hm hv (v := .ty n) rfl hn hdb) pa_nil hs2) hs) (by decide) (by decide) (he := hs) (hpl := hp)) fun σ H Q r f => ⟨ρ.n, r, _, h, fun v H1 m d s1 r1 q1 ⟨t, b, ty, hk, kk⟩ =>
    ⟨W.g, _, d, v, .ty n, t, .type n, b, rfl, .ty n, q1, ty, hk, f _ H1 m (.bl b) s1 r1 rfl kk⟩⟩
/-- .. T a class of the text -/
theorem se_isC {T : Str} {C : Addr} (hi : X.mg "isinstance" = none) (hm : X.mg T = some (.ref C)) (h : SB X W ρ e fun m d => ∃ t b, TyD X.K d t ∧ PySem.W.kitOne X.K t (.ref C) = some b ∧ K m (.bl b)) (hg : Gl X "isinstance" := by rfl) (hg2 : Gl X T := by rfl)
    (hdb : (T == ("__debug__" : Str)) = false := by decide)
    (hs : starEach [e, .Name T p2] X.env = (false, eval e X.env) :: starEach [.Name T p2] X.env := by rfl) (hs2 : starEach [.Name T p2] X.env = (false, eval (.Name T p2) X.env) :: starEach [] X.env := by rfl) (hp : (backTo pos (starEach [.Name T p2] X.env)).any (·.1) = false := by rfl) : SE X W ρ (.Call (.Name "isinstance" p1) [e, .Name T p2] [] pos) K :=
  SE.of (pe_callB call_isD hg hi boot_isinstance (pa_cons (pe_XB (W := W) (ρ := ρ)) (pa_cons (pe_glob hg2 hm (v := .ref C) rfl hdb) pa_nil hs2) hs) (by decide) (by decide) (he := hs) (hpl := hp)) fun σ H Q r f => ⟨ρ.n, r, _, h, fun v H1 m d s1 r1 q1 ⟨t, b, ty, hk, kk⟩ =>
    ⟨W.g, _, d, v, .ref C, t, .ref C, b, rfl, .own C, q1, ty, hk, f _ H1 m (.bl b) s1 r1 rfl kk⟩⟩
/-- isinstance(e, (list, tuple)) -/
theorem se_isLT {p3 p4 : Pos} {kk : Nat} (hi : X.mg "isinstance" = none) (hm1 : X.mg "list" = none) (hm2 : X.mg "tuple" = none) (h : SB X W ρ e fun m d => ∃ t b, TyD X.K d t ∧ PySem.W.kitAny X.K t [.type "list", .type "tuple"] = some b ∧ K m (.bl b)) (hg : Gl X "isinstance" := by rfl) (hg1 : Gl X "list" := by rfl) (hg2 : Gl X "tuple" := by rfl)
    (hs : starEach [e, .Tuple [.Name "list" p2, .Name "tuple" p3] kk p4] X.env = (false, eval e X.env) :: starEach [.Tuple [.Name "list" p2, .Name "tuple" p3] kk p4] X.env := by rfl) (hs2 : starEach [.Tuple [.Name "list" p2, .Name "tuple" p3] kk p4] X.env = (false, eval (.Tuple [.Name "list" p2, .Name "tuple" p3] kk p4) X.env) :: starEach [] X.env := by rfl)
    (hs3 : starEach [.Name "list" p2, .Name "tuple" p3] X.env = (false, eval (.Name "list" p2) X.env) :: starEach [.Name "tuple" p3] X.env := by rfl) (hs4 : starEach [.Name "tuple" p3] X.env = (false, eval (.Name "tuple" p3) X.env) :: starEach [] X.env := by rfl)
    (hp : (backTo pos (starEach [.Tuple [.Name "list" p2, .Name "tuple" p3] kk p4] X.env)).any (·.1) = false := by rfl) : SE X W ρ (.Call (.Name "isinstance" p1) [e, .Tuple [.Name "list" p2, .Name "tuple" p3] kk p4] [] pos) K :=
  SE.of (pe_callB call_isDT hg hi boot_isinstance (pa_cons (pe_XB (W := W) (ρ := ρ)) (pa_cons (pe_tup (pa_cons (pe_bltn hg1 hm1 PyProof.Rows.boot_list (v := .ty "list") rfl) (pa_cons (pe_bltn hg2 hm2 PyProof.Rows.boot_tuple (v := .ty "tuple") rfl) pa_nil hs4) hs3)) pa_nil hs2) hs) (by decide) (by decide) (he := hs) (hpl := hp)) fun σ H Q r f => ⟨ρ.n, r, _, h, fun v H1 m d s1 r1 q1 ⟨t, b, ty, hk, kk⟩ => by
    refine ⟨by decide, fun p hp => ⟨W.g, Fb W.O σ ρ.s, d, v, p, [.ty "list", .ty "tuple"], t, [.type "list", .type "tuple"], b, rfl, upd_same, .cons (.ty _) (.cons (.ty _) .nil), ?_, ty, hk, f _ _ m (.bl b) (s1.trans (.of (same_new hp))) (r1.stay (same_new hp)) rfl kk⟩⟩
    exact r1.rd (.of (same_new hp)) q1⟩
end
end Sk
set_option maxHeartbeats 4000000
/-! S18: dict(pairs). -/
namespace Sk
open PySem PySem.Spec PyProof.Rows L2

theorem len_putK {ks : List D} {kv : List V} {k : D} {x : V} (h : ks.length = kv.length) : (dputK ks k).length = (kvP ks k kv x).length := by
  unfold dputK kvP
  cases at? (ks.map D.nk) k.nk <;> simp [h]
theorem len_putV {ks : List D} {vs : List V} {k : D} {y : V} (h : ks.length = vs.length) : (dputK ks k).length = (vsP ks k vs y).length := by
  unfold dputK vsP
  cases at? (ks.map D.nk) k.nk
  · simp only [List.length_append, List.length_singleton]
    omega
  · simp only [List.length_set]
    omega
theorem len_put {ks : List D} {k : D} : (dputK ks k).length ≤ ks.length + 1 := by
  unfold dputK
  cases at? (ks.map D.nk) k.nk <;> simp
/-- the entries behind a store, told of data -/
theorem put_step {w : World} {ks : List D} {kv vs : List V} {es : Array DictEntry} {k : D} {x y : V} {key u : Value} (l1 : ks.length = kv.length) (l2 : ks.length = vs.length) (hp : Paired EntIs (entL w ks kv vs) es.toList) (ri : RelV x key) (rv : RelV y u) :
    Paired EntIs (entL w (dputK ks k) (kvP ks k kv x) (vsP ks k vs y)) (putE w (ks.map D.nk) k.nk key u es).toList := by
  obtain ⟨p1, old'⟩ := paired_ents (h := default) l1 l2 hp
  have sz : es.size = ks.length := by rw [← p1, Array.length_toList]
  have old : ∀ (j : Nat) (e : DictEntry), es[j]? = some e → ∃ k x y, ks[j]? = some k ∧ kv[j]? = some x ∧ vs[j]? = some y ∧ e.hash = k.nk.hash w ∧ RelV x e.key ∧ RelV y e.val := fun j e he => old' j e (by rw [Array.getElem?_toList]; exact he)
  refine ents_paired (len_putK l1) (len_putV l2) ?_ fun j e he => ?_
  · unfold putE dputK
    cases ea : at? (ks.map D.nk) k.nk with
    | some j => simp [sz]
    | none => simp [sz]
  · unfold putE at he
    unfold dputK kvP vsP
    cases ea : at? (ks.map D.nk) k.nk with
    | some t =>
      rw [ea] at he
      rw [Array.getElem?_toList] at he
      by_cases hj : j = t
      · subst hj
        rw [Array.getElem?_modify, if_pos rfl] at he
        cases ee : es[j]? with
        | none => rw [ee] at he; cases he
        | some e0 =>
          rw [ee] at he
          have e1 : ({ e0 with val := u } : DictEntry) = e := Option.some.inj he
          subst e1
          obtain ⟨k', x', y', f1, f2, f3, f4, f5, f6⟩ := old j e0 ee
          refine ⟨k', x', y, f1, f2, ?_, f4, f5, rv⟩
          rw [List.getElem?_set, if_pos rfl, if_pos (List.getElem?_eq_some_iff.mp f3).1]
      · rw [Array.getElem?_modify, if_neg (Ne.symm hj)] at he
        obtain ⟨k', x', y', f1, f2, f3, f4⟩ := old j e he
        exact ⟨k', x', y', f1, f2, by rw [List.getElem?_set_ne (Ne.symm hj)]; exact f3, f4⟩
    | none =>
      rw [ea] at he
      rw [Array.getElem?_toList, Array.getElem?_push] at he
      by_cases hj : j = es.size
      · rw [if_pos hj] at he
        cases he
        rw [sz] at hj
        refine ⟨k, x, y, ?_, ?_, ?_, rfl, ri, rv⟩
        · rw [hj, List.getElem?_append_right (Nat.le_refl _), Nat.sub_self]
          rfl
        · rw [hj, l1, List.getElem?_append_right (Nat.le_refl _), Nat.sub_self]
          rfl
        · rw [hj, l2, List.getElem?_append_right (Nat.le_refl _), Nat.sub_self]
          rfl
      · rw [if_neg hj] at he
        obtain ⟨k', x', y', f1, f2, f3, f4⟩ := old j e he
        exact ⟨k', x', y', by rw [List.getElem?_append_left (List.getElem?_eq_some_iff.mp f1).1]; exact f1, by rw [List.getElem?_append_left (List.getElem?_eq_some_iff.mp f2).1]; exact f2, by rw [List.getElem?_append_left (List.getElem?_eq_some_iff.mp f3).1]; exact f3, f4⟩
/-- a dict that is being filled: keys, what they stand for, the values -/
structure Q4 where
  ks : List D
  ds : List D
  kv : List V
  vs : List V
structure P4 where
  k : D
  d : D
  x : V
  y : V
def Q4.put (q : Q4) (p : P4) : Q4 := ⟨dputK q.ks p.k, dputV q.ks q.ds p.k p.d, kvP q.ks p.k q.kv p.x, vsP q.ks p.k q.vs p.y⟩
def Q4.all (l : List P4) : Q4 := l.foldl Q4.put ⟨[], [], [], []⟩
theorem Q4.all_succ {l : List P4} {i : Nat} {p : P4} (h : l[i]? = some p) : Q4.all (l.take (i + 1)) = (Q4.all (l.take i)).put p := by
  unfold Q4.all
  rw [List.take_add_one, h, List.foldl_append]
  rfl
/-- the keys of pairs are fit to stand in one dict -/
structure FitK (ks : List D) : Prop where
  key : ∀ k ∈ ks, k.isK = true ∧ k.nk.depth ≤ 8
  kind : (∀ k ∈ ks, k.leaf = true) ∨ (∀ k ∈ ks, k.leaf = false)
theorem dputK_mem {ks : List D} {k x : D} (h : x ∈ dputK ks k) : x ∈ ks ∨ x = k := by
  unfold dputK at h
  cases e : at? (ks.map D.nk) k.nk with
  | some i =>
    rw [e] at h
    exact .inl h
  | none =>
    rw [e] at h
    rcases List.mem_append.mp h with z | z
    · exact .inl z
    · exact .inr (by simpa using z)
theorem Q4.mem {l : List P4} {x : D} (h : x ∈ (Q4.all l).ks) : x ∈ l.map P4.k := by
  unfold Q4.all at h
  have gen : ∀ (l : List P4) (q : Q4), x ∈ (l.foldl Q4.put q).ks → x ∈ q.ks ∨ x ∈ l.map P4.k := by
    intro l
    induction l with
    | nil => exact fun q h => .inl h
    | cons p l ih =>
      intro q h
      rcases ih (q.put p) h with z | z
      · rcases dputK_mem z with z | z
        · exact .inl z
        · exact .inr (by rw [z]; exact List.mem_cons_self)
      · exact .inr (List.mem_cons_of_mem _ z)
  rcases gen l _ h with z | z
  · cases z
  · exact z
theorem FitK.ok {ks : List D} (f : FitK ks) {ks' : List D} {k : D} (hk : k ∈ ks) (hs : ∀ x ∈ ks', x ∈ ks) : KOk ks' k := by
  refine ⟨(f.key k hk).1, (f.key k hk).2, .inr fun x hx => ?_⟩
  rcases f.kind with z | z
  · rw [z x (hs x hx), z k hk]
  · rw [z x (hs x hx), z k hk]
theorem dkeys_nil : DKeys [] := ⟨fun _ h => (nomatch h), List.nodup_nil, .inl fun _ h => (nomatch h)⟩
structure Q4.Ok (Kf : PySem.W.Frag) (w : World) (g : G) (H : Hp) (F : Addr → Prop) (q : Q4) : Prop where
  rk : RepL Kf w g H F q.ks q.kv
  rv : RepL Kf w g H F q.ds q.vs
  dk : DKeys q.ks
  len : q.ks.length = q.ds.length
theorem Q4.ok {Kf : PySem.W.Frag} {w : World} {g : G} {H : Hp} {F : Addr → Prop} {l : List P4} (f : FitK (l.map P4.k)) (hr : ∀ p ∈ l, Rep Kf w g H F p.k p.x ∧ Rep Kf w g H F p.d p.y) : ∀ i, i ≤ l.length → (Q4.all (l.take i)).Ok Kf w g H F
  | 0, _ => ⟨rfl, rfl, dkeys_nil, rfl⟩
  | i + 1, hi => by
    have ih := Q4.ok f hr i (by omega)
    have hp : l[i]? = some l[i] := List.getElem?_eq_getElem (by omega)
    rw [Q4.all_succ hp]
    have hm : l[i] ∈ l := List.getElem_mem _
    refine ⟨rep_putK ih.rk (hr _ hm).1, rep_putV ih.rv (hr _ hm).2, ih.dk.put (f.ok (List.mem_map_of_mem hm) fun x hx => ?_), dput_len ih.len⟩
    obtain ⟨p, hp, e⟩ := List.mem_map.mp (Q4.mem hx)
    exact List.mem_map.mpr ⟨p, List.mem_of_mem_take hp, e⟩
theorem Q4.len {l : List P4} : (Q4.all l).ks.length ≤ l.length := by
  unfold Q4.all
  have gen : ∀ (l : List P4) (q : Q4), (l.foldl Q4.put q).ks.length ≤ q.ks.length + l.length := by
    intro l
    induction l with
    | nil => exact fun q => Nat.le_refl _
    | cons p l ih =>
      intro q
      have h1 := ih (q.put p)
      have h2 : (q.put p).ks.length ≤ q.ks.length + 1 := len_put
      rw [List.length_cons]
      show (l.foldl Q4.put (q.put p)).ks.length ≤ _
      omega
  have := gen l ⟨[], [], [], []⟩
  simpa using this
/-- told of data alone -/
def dictD (prs : List (D × D)) : List D × List D := prs.foldl (fun a p => (dputK a.1 p.1, dputV a.1 a.2 p.1 p.2)) ([], [])
theorem Q4.dictD (l : List P4) : ((Q4.all l).ks, (Q4.all l).ds) = dictD (l.map fun p => (p.k, p.d)) := by
  unfold Q4.all Sk.dictD
  have gen : ∀ (l : List P4) (q : Q4), ((l.foldl Q4.put q).ks, (l.foldl Q4.put q).ds) = (l.map fun p => (p.k, p.d)).foldl (fun a p => (dputK a.1 p.1, dputV a.1 a.2 p.1 p.2)) (q.ks, q.ds) := by
    intro l
    induction l with
    | nil => exact fun q => rfl
    | cons p l ih => exact fun q => ih (q.put p)
  exact gen l ⟨[], [], [], []⟩

/-- a list of pairs -/
theorem pairs_open {X : Cx} {pins : List (Addr × Obj)} {σ : L2.St} {H : Hp} {s : Shared} {g : G} {F : Addr → Prop} (I : Inv X pins σ H s) : ∀ {prs : List (D × D)} {vs : List V} {us : List Value}, RepL X.K X.w g H F (prs.map fun p => .tup [p.1, p.2]) vs → Vals vs us →
    ∃ (l : List P4) (ps : List (Value × Value)) (Ts : List Addr), l.map (fun p => (p.k, p.d)) = prs ∧ us = Ts.map Value.ref ∧ ps.length = prs.length ∧ Ts.length = prs.length ∧ (∀ p ∈ l, Rep X.K X.w g H F p.k p.x ∧ Rep X.K X.w g H F p.d p.y) ∧
      ∀ (j : Nat) (T : Addr), Ts[j]? = some T → ∃ p k v, l[j]? = some p ∧ ps[j]? = some (k, v) ∧ s.heap.IsTuple T #[k, v] ∧ RelV p.x k ∧ RelV p.y v
  | [], vs, us, h, r => by
    have e : vs = [] := h
    subst e
    cases r
    exact ⟨[], [], [], rfl, rfl, rfl, rfl, fun _ h => (nomatch h), fun j T h => by cases h⟩
  | (k, d) :: prs, vs, us, ⟨v, r', e, ⟨a, xs, ea, q, x, r1, e1, h1, y, r2, e2, h2, e3⟩, h⟩, r => by
    have e3' : r2 = [] := e3
    subst e ea e1 e2 e3'
    cases r with
    | cons ra rr =>
      cases ra
      obtain ⟨l, ps, Ts, f1, f2, f3, f4, f5, f6⟩ := pairs_open I h rr
      obtain ⟨its, rv, tp, _⟩ := I.tuple q
      obtain ⟨u1, u2, ei, ru1, ru2⟩ := vals2 rv
      subst ei
      refine ⟨⟨k, d, x, y⟩ :: l, (u1, u2) :: ps, a :: Ts, by rw [List.map_cons, f1], by rw [List.map_cons, f2], by simp [f3], by simp [f4], fun p hp => ?_, fun j T hT => ?_⟩
      · rcases List.mem_cons.mp hp with z | z
        · subst z
          exact ⟨h1, h2⟩
        · exact f5 p z
      · cases j with
        | zero =>
          cases hT
          exact ⟨_, u1, u2, rfl, rfl, tp, ru1, ru2⟩
        | succ j => exact f6 j T hT
/-- dict(pairs), by the model -/
theorem raw_dict {X : Cx} {pins : List (Addr × Obj)} {σ : L2.St} {H : Hp} {s : Shared} {g : G} {F : Addr → Prop} {E : Value → Shared → Prop} {Q : Value → Shared → Prop} (I : Inv X pins σ H s) (hc : X.calm = true) (hu : X.A.units + 12 < cLine) {a : Addr} {prs : List (D × D)} {vs : List V} (ha : SqL X.K H a vs)
    (hr : RepL X.K X.w g H F (prs.map fun p => .tup [p.1, p.2]) vs) (hf : FitK (prs.map Prod.fst)) (hz : prs.length ≤ 1000000)
    (h : ∀ l : List P4, l.map (fun p => (p.k, p.d)) = prs → (Q4.all l).Ok X.K X.w g H F → ∀ h' tk o, (∀ b ob, s.heap.get? b = some ob → h'.get? b = some ob) →
      Inv X pins σ (upd H s.heap.objs.size (dO s.heap.objs.size (ents X.w (Q4.all l).ks (o, (Q4.all l).kv) (Q4.all l).vs))) { s with heap := h', toks := tk } → Q (.ref s.heap.objs.size) { s with heap := h', toks := tk }) :
    wpAny (model X.prog X.w) X.A (call (.type "dict") [.ref a]) Q E s := by
  obtain ⟨its, rv, ⟨o, n, ho, hcl, hd, hdat⟩, _⟩ := I.list ha
  obtain ⟨l, ps, Ts, f1, f2, f3, f4, f5, f6⟩ := pairs_open I hr rv
  subst f2
  have hll : l.length = prs.length := by rw [← f1, List.length_map]
  have fk : FitK (l.map P4.k) := by
    have e : l.map P4.k = prs.map Prod.fst := by rw [← f1, List.map_map]; rfl
    rw [e]
    exact hf
  have tsD : ∀ j, j < ps.length → Ts[j]? = some (Ts.getD j 0) := fun j hj => by
    have : j < Ts.length := by omega
    rw [List.getD_eq_getElem?_getD, List.getElem?_eq_getElem this]
    rfl
  have PA' := PairArg.list (prog := X.prog) (w := X.w) a (Ts.map Value.ref).toArray (fun j => Ts.getD j 0) ps
  have pit : PairItems s.heap (Ts.map Value.ref).toArray (fun j => Ts.getD j 0) ps := by
    refine ⟨by simp [f3, f4], fun j k v hj => ?_⟩
    have jl : j < ps.length := (List.getElem?_eq_some_iff.mp hj).1
    obtain ⟨p, k', v', g1, g2, g3, _⟩ := f6 j _ (tsD j jl)
    rw [hj] at g2
    cases g2
    refine ⟨?_, .inl g3⟩
    rw [List.getElem?_toArray, List.getElem?_map, tsD j jl]
    rfl
  have big : (s.heap.objs.size == sysModules) = false := big_sys I
  refine call_dict_arg PA' ⟨⟨o, n, ho, hcl, hd, hdat⟩, pit⟩ fun s₁ hs₁ hdf ok₁ => ?_
  subst hs₁
  refine updateFrom_arg (A := X.A.in1) (Tab := fun i h => (∀ b ob, s.heap.get? b = some ob → h.get? b = some ob) ∧ ∃ o es ep, h.get? s.heap.objs.size = some o ∧ o.ExactDict ∧ o.data = .dict es ep ∧ Paired EntIs (entL X.w (Q4.all (l.take i)).ks (Q4.all (l.take i)).kv (Q4.all (l.take i)).vs) es.toList) PA' .none (I.ok.hd hc) ok₁ hdf
    ⟨fun b ob e => Heap.get?_push_of_some _ e, _, #[], 0, Heap.get?_push_size _ rfl, ⟨rfl, rfl, rfl⟩, rfl, .nil⟩ (fun i h tb => let ⟨_, o, _, _, e, _⟩ := tb; Heap.lt_size e) (fun i h h' wr' hd' hw tb hk => ?_) (fun i k v s' Q' E' hi hrel tb hT hQ => ?_) fun h' tk tb hk => ?_
  · obtain ⟨t1, o, es, ep, t2, t3⟩ := tb
    refine ⟨fun b ob e => hk b ob (fun hm => ?_) (t1 b ob e), o, es, ep, hk _ _ hd' t2, t3⟩
    rcases hw b hm with z | z
    · cases z
    · rw [Heap.get?_push_of_some _ e] at z
      cases z
  · obtain ⟨t1, o, es, ep, t2, t3, t4, t5⟩ := tb
    have il : i < l.length := by omega
    have q4 := Q4.ok (g := g) (H := H) (F := F) (Kf := X.K) (w := X.w) fk f5 i (by omega)
    obtain ⟨p, k', v', g1, g2, g3, g4, g5⟩ := f6 i _ (tsD i hi)
    have hrel' : ps[i]? = some (k, v) := hrel
    rw [hrel'] at g2
    cases g2
    have hpm : p ∈ l := List.mem_of_getElem? g1
    have nst : ∀ {d : D} {x : V} {u : Value}, d.isK = true → Rep X.K X.w g H F d x → RelV x u → NestedIs s'.heap d.nk u := fun {d x u} h1 h2 h3 => NestedIs.at (fun b ob vs n e _ => t1 b ob e) _ _ (Rep.nested I d x u h1 h2 h3)
    have lk := q4.rk.length
    have lv := q4.len.trans q4.rv.length
    obtain ⟨pl, pe⟩ := paired_ents (h := default) lk lv t5
    have hsub : ∀ x ∈ (Q4.all (l.take i)).ks, x ∈ l.map P4.k := fun x hx => by
      obtain ⟨p, hp, e⟩ := List.mem_map.mp (Q4.mem hx)
      exact List.mem_map.mpr ⟨p, List.mem_of_mem_take hp, e⟩
    have kok : KOk (Q4.all (l.take i)).ks p.k := fk.ok (List.mem_map_of_mem hpm) hsub
    have szz : es.size ≤ sizeLine := by
      have e1 : es.size = (Q4.all (l.take i)).ks.length := by rw [← pl, Array.length_toList]
      have e2 := Q4.len (l := l.take i)
      rw [List.length_take] at e2
      rw [sizeLine_eq]
      omega
    refine raw_set t2 t3 t4 (ks := (Q4.all (l.take i)).ks.map D.nk) (k := p.k.nk) ⟨?_, q4.dk.nd, fun k hk => ?_, ?_⟩ (nst kok.key (f5 p hpm).1 g4) kok.dp (kok.raw q4.dk) (by show X.A.units + 1 + 1 + 8 < cLine; omega) szz fun h'' tk o' ep' u1 u2 u3 u4 => ?_
    · refine paired_of (by rw [List.length_map, pl]) fun j k e hk he => ?_
      obtain ⟨k', x, y, m1, m2, m3, m4, m5, m6⟩ := pe j e he
      rw [List.getElem?_map, m1] at hk
      cases hk
      obtain ⟨x', hx', rx'⟩ := q4.rk.get m1
      rw [m2] at hx'
      cases hx'
      exact ⟨m4, nst (q4.dk.key k' (List.mem_of_getElem? m1)).1 rx' m5⟩
    · obtain ⟨d, hd, rfl⟩ := List.mem_map.mp hk
      exact (q4.dk.key d hd).2
    · rcases q4.dk.kind with z | z
      · refine .inl fun k hk => ?_
        obtain ⟨d, hd, rfl⟩ := List.mem_map.mp hk
        rw [leafK_nk (q4.dk.key d hd).1]
        exact z d hd
      · refine .inr fun k hk => ?_
        obtain ⟨d, hd, rfl⟩ := List.mem_map.mp hk
        rw [leafK_nk (q4.dk.key d hd).1]
        exact z d hd
    · refine hQ h'' tk ⟨fun b ob e => u4.extBut b ob (Nat.ne_of_lt (Heap.lt_size e)) (t1 b ob e), o', _, ep', u1, u2, u3, ?_⟩ u4
      rw [Q4.all_succ g1]
      exact put_step lk lv t5 g4 g5
  · obtain ⟨t1, o, es, ep, t2, t3, t4, t5⟩ := tb
    have q4 := Q4.ok (g := g) (H := H) (F := F) (Kf := X.K) (w := X.w) fk f5 l.length (Nat.le_refl _)
    have e : l.take ps.length = l := List.take_of_length_le (by omega)
    rw [e] at t5
    rw [List.take_length] at q4
    refine ⟨rfl, h l f1 q4 h' tk o t1 (I.laid (a := s.heap.objs.size) (t' := tk) t1 (Nat.le_refl _) (dO_stay (xs := entL X.w (Q4.all l).ks (Q4.all l).kv (Q4.all l).vs) big ?_ t2 t3 t4 t5))⟩
    rw [ents_len q4.rk.length (q4.len.trans q4.rv.length)]
    have := Q4.len (l := l)
    rw [sizeLine_eq]
    omega
end Sk
set_option maxHeartbeats 4000000
/-! S19: dict(pairs), dict(d), list(d), list(d.items()), told of data. -/
namespace Sk
open PySem PySem.Spec PyProof.Rows L2

def rDictP (X : Cx) : List V → Hp → VK → Prop := fun xs H Q => ∃ (g : G) (F : Addr → Prop) (a : Addr) (prs : List (D × D)) (vs : List V), xs = [.ref a] ∧ SqL X.K H a vs ∧ RepL X.K X.w g H F (prs.map fun p => .tup [p.1, p.2]) vs ∧ FitK (prs.map Prod.fst) ∧ prs.length ≤ 1000000 ∧
  ∀ l : List P4, l.map (fun p => (p.k, p.d)) = prs → (Q4.all l).Ok X.K X.w g H F → ∀ p o, H p = none → Q (.ref p) (upd H p (dO p (ents X.w (Q4.all l).ks (o, (Q4.all l).kv) (Q4.all l).vs)))
theorem call_dictO {X : Cx} (hc : X.calm = true) (hu : X.A.units + 12 < cLine) : CallR X (.type "dict") (rDictP X) := by
  intro pins s σ H xs us Q I r h
  obtain ⟨g, F, a, prs, vs, rfl, ha, hr, hf, hz, q⟩ := h
  obtain ⟨u, rfl, rx⟩ := vals1 r
  obtain rfl : u = .ref a := rx
  exact raw_dict I hc hu ha hr hf hz fun l e ok h' tk o hk I' => ⟨.ref _, _, I', rfl, q l e ok _ o (I.hok.fresh (Nat.le_refl _))⟩
section
variable {X : Cx} {W : Fm} {ρ : En} {K : Nat → D → Prop} {e : Expr} {pos p1 : Pos} {H : Hp} {σ : L2.St}
theorem FolF.dct {Q : VK} {ks ds : List D} {kv : Obj × List V} {vs : List V} {p : Addr} (f : FolF X W ρ σ H K Q) (r : RE X.K X.w W H σ ρ) (rk : RepL X.K X.w W.g H (Fb W.O σ ρ.s) ks kv.2) (rv : RepL X.K X.w W.g H (Fb W.O σ ρ.s) ds vs) (dk : DKeys ks) (hl : ks.length = ds.length) (k : K ρ.n (.dct ks ds)) (hp : H p = none) :
    Q (.ref p) (upd H p (dO p (ents X.w ks kv vs))) := by
  have up : ∀ {d : List D} {v : List V}, RepL X.K X.w W.g H (Fb W.O σ ρ.s) d v → RepL X.K X.w W.g (upd H p (dO p (ents X.w ks kv vs))) (Fb (p :: W.O) σ ρ.s) d v := fun h => by
    refine r.repL (.of (same_new hp)) (fun b u n e z => ?_) (fun _ => fb_O) h
    rcases z with z | z
    · rcases List.mem_cons.mp z with z | z
      · subst z
        rw [hp] at e
        cases e
      · exact n (.inl z)
    · exact n (.inr z)
  exact f p _ ρ.n (.dct ks ds) (.of (same_new hp)) hp (r.stay (same_new hp)) (r.addNew hp) ⟨kv, vs, upd_same, up rk, up rv, dk, hl⟩ k
/-- dict(pairs) -/
theorem sf_dictP (hm : X.mg "dict" = none) (hc : X.calm = true) (hu : X.A.units + 12 < cLine) (h : SB X W ρ e fun n d => ∃ prs : List (D × D), d = .lst (prs.map fun p => .tup [p.1, p.2]) ∧ FitK (prs.map Prod.fst) ∧ prs.length ≤ 1000000 ∧ K n (.dct (dictD prs).1 (dictD prs).2)) (hg : Gl X "dict" := by rfl)
    (hs : starEach [e] X.env = (false, eval e X.env) :: starEach [] X.env := by rfl) : SF X W ρ (.Call (.Name "dict" p1) [e] [] pos) K :=
  sf_t1 (call_dictO hc hu) hm PyProof.Rows.boot_dict (h.imp fun n d ⟨prs, ed, hf, hz, k⟩ => by
    subst ed
    intro σ H v Q r p f
    obtain ⟨a, vs, e1, _, q, rl⟩ := p
    subst e1
    refine ⟨W.g, Fb W.O σ ρ.s, a, prs, vs, rfl, .of q, rl, hf, hz, fun l el ok p o hp => ?_⟩
    have ed := Q4.dictD l
    rw [el] at ed
    refine FolF.dct f r (kv := (o, (Q4.all l).kv)) ok.rk ok.rv ok.dk ok.len ?_ hp
    have e1 : (Q4.all l).ks = (dictD prs).1 := congrArg Prod.fst ed
    have e2 : (Q4.all l).ds = (dictD prs).2 := congrArg Prod.snd ed
    rw [e1, e2]
    exact k) hg (hs := hs)
end

/-! ### list(d) -/
def rListO (X : Cx) : List V → Hp → VK → Prop := fun xs H Q => ∃ (a : Addr) (ks : List D) (kv : Obj × List V) (vs : List V), xs = [.ref a] ∧ H a = some (dO a (ents X.w ks kv vs)) ∧ ks.length = kv.2.length ∧ ks.length = vs.length ∧ ∀ p, H p = none → Q (.ref p) (upd H p (.lst kv.2))
theorem vals_of_get : ∀ {vs : List V} {us : List Value}, vs.length = us.length → (∀ (j : Nat) (v : V) (u : Value), vs[j]? = some v → us[j]? = some u → RelV v u) → Vals vs us
  | [], [], _, _ => .nil
  | v :: vs, u :: us, h, f => .cons (f 0 v u rfl rfl) (vals_of_get (Nat.succ.inj h) fun j x y h1 h2 => f (j + 1) x y h1 h2)
theorem call_listO {X : Cx} (hc : X.calm = true) : CallR X (.type "list") (rListO X) := by
  intro pins s σ H xs us Q I r h
  obtain ⟨a, ks, kv, vs, rfl, ha, l1, l2, q⟩ := h
  obtain ⟨u, rfl, rx⟩ := vals1 r
  obtain rfl : u = .ref a := rx
  obtain ⟨⟨hs, hz, h1, h2, es, ep, h3, h4⟩, _⟩ := (show ObjOk X.prog X.w H s.heap a (dO a (ents X.w ks kv vs)) from I.hok a _ ha)
  have h4 : Paired EntIs (entL X.w ks kv.2 vs) es.toList := h4
  have hz : (entL X.w ks kv.2 vs).length ≤ sizeLine := hz
  obtain ⟨p1, p2⟩ := paired_ents (h := default) l1 l2 h4
  rw [ents_len l1 l2] at hz
  have sz : es.size = ks.length := by rw [← p1, Array.length_toList]
  refine PySem.W.kdl_call (KdlSrc.rawDict (es := es) (ep := ep) hs) (I.ok.hd hc) ⟨_, h1, h2, h3⟩ (by omega) fun h' tk acc' c' kp e it => ?_
  refine ⟨.ref s.heap.objs.size, upd H s.heap.objs.size (.lst kv.2), I.laid (t' := tk) kp (Nat.le_refl _) ⟨by omega, acc'.toList, c', vals_of_get ?_ fun j v u hv hu => ?_, ?_⟩, rfl, q _ (I.hok.fresh (Nat.le_refl _))⟩
  · rw [Array.length_toList, it.1, sz]
    exact l1.symm
  · obtain ⟨hj, ev⟩ := it.2 j u (by rw [← Array.getElem?_toList]; exact hu)
    obtain ⟨k, x, y, e1, e2, e3, e4, e5, e6⟩ := p2 j es[j] (by rw [Array.getElem?_toList]; exact Array.getElem?_eq_getElem hj)
    rw [hv] at e2
    cases e2
    rw [ev]
    exact e5
  · rw [Array.toArray_toList]
    exact e
section
variable {X : Cx} {W : Fm} {ρ : En} {K : Nat → D → Prop} {e : Expr} {pos p1 : Pos}
theorem sf_listD (hm : X.mg "list" = none) (hc : X.calm = true) (h : SB X W ρ e fun n d => ∃ ks ds, d = .dct ks ds ∧ K n (.lst ks)) (hg : Gl X "list" := by rfl) (hs : starEach [e] X.env = (false, eval e X.env) :: starEach [] X.env := by rfl) : SF X W ρ (.Call (.Name "list" p1) [e] [] pos) K :=
  sf_t1 (call_listO hc) hm PyProof.Rows.boot_list (h.imp fun n d ⟨ks, ds, ed, k⟩ => by
    subst ed
    intro σ H v Q r p f
    obtain ⟨a, kv, vs, e1, _, q, rk, rv, dk, hl⟩ := p
    subst e1
    exact ⟨a, ks, kv, vs, rfl, q, rk.length, hl.trans rv.length, fun l hl => f.lst r rk k hl⟩) hg (hs := hs)
end

/-! ### list(d.items()) -/
def putT2 : Hp → List Addr → List (V × V) → Hp
  | H, a :: as, p :: kvs => putT2 (upd H a (.tup [p.1, p.2])) as kvs
  | H, _, _ => H
theorem putT2_off {b : Addr} : ∀ (as : List Addr) (kvs : List (V × V)) (H : Hp), b ∉ as → putT2 H as kvs b = H b
  | [], _, _, _ => rfl
  | _ :: _, [], _, _ => rfl
  | a :: as, p :: kvs, H, h => by
    show putT2 (upd H a (.tup [p.1, p.2])) as kvs b = H b
    rw [putT2_off as kvs _ (fun z => h (List.mem_cons_of_mem _ z)), upd_ne (fun z => h (by rw [z]; exact List.mem_cons_self))]
theorem putT2_at : ∀ (as : List Addr) (kvs : List (V × V)) (H : Hp), as.length = kvs.length → as.Nodup → Paired (fun (t : Addr) (p : V × V) => putT2 H as kvs t = some (.tup [p.1, p.2])) as kvs
  | [], [], _, _, _ => .nil
  | [], _ :: _, _, h, _ => by cases h
  | _ :: _, [], _, h, _ => by cases h
  | a :: as, p :: kvs, H, h, hn => by
    have hn' := List.nodup_cons.mp hn
    refine .cons ?_ (putT2_at as kvs (upd H a (.tup [p.1, p.2])) (Nat.succ.inj h) hn'.2)
    show putT2 (upd H a (.tup [p.1, p.2])) as kvs a = some (.tup [p.1, p.2])
    rw [putT2_off as kvs _ hn'.1, upd_same]
def rItemsO (X : Cx) : V → Hp → VK → Prop := fun x H Q => ∃ (d : Addr) (ks : List D) (kv : Obj × List V) (vs : List V), x = .ref d ∧ H d = some (dO d (ents X.w ks kv vs)) ∧ ks.length = kv.2.length ∧ ks.length = vs.length ∧
  ∀ (H' : Hp) (p : Addr) (ts : List Addr), (∀ b o, H b = some o → H' b = some o) → H p = none → H' p = some (.lst (ts.map V.ref)) → Paired (fun (t : Addr) (q : V × V) => H' t = some (.tup [q.1, q.2])) ts (kv.2.zip vs) → Q (.ref p) H'
theorem items_laidO {X : Cx} {pins : List (Addr × Obj)} {σ : L2.St} {H : Hp} {s : Shared} {h' : Heap} {tk : Nat} {kvs : List (V × V)} {es : Array DictEntry} {acc : Array Value} {c : Nat} {as : List Addr} (I : Inv X pins σ H s) (hz : kvs.length ≤ sizeLine) (kv : ∀ (j : Nat) (p : V × V) (en : DictEntry), kvs[j]? = some p → es[j]? = some en → RelV p.1 en.key ∧ RelV p.2 en.val) (lk : kvs.length = es.size)
    (hk : ∀ b o, s.heap.get? b = some o → h'.get? b = some o) (hS : h'.get? s.heap.objs.size = some { cls := .type "list", dict := none, data := .seq acc c, slots := #[] }) (hl : as.length = es.size) (hG : PySem.W.DilG es s.heap.objs.size h' as) (hacc : acc.toList = as.map Value.ref) :
    ∃ H' : Hp, (∀ b o, H b = some o → H' b = some o) ∧ H s.heap.objs.size = none ∧ H' s.heap.objs.size = some (.lst (as.map V.ref)) ∧ Paired (fun (t : Addr) (q : V × V) => H' t = some (.tup [q.1, q.2])) as kvs ∧ Inv X pins σ H' { s with heap := h', toks := tk } := by
  have hSn : s.heap.objs.size ∉ as := fun z => Nat.lt_irrefl _ (hG.above _ z)
  have nd : as.Nodup := List.Pairwise.imp (fun {a b} (h : a < b) => Nat.ne_of_lt h) hG.rise
  have new : ∀ t ∈ as, H t = none := fun t ht => I.hok.fresh (Nat.le_of_lt (hG.above t ht))
  have newS : H s.heap.objs.size = none := I.hok.fresh (Nat.le_refl _)
  have atP := putT2_at as kvs (upd H s.heap.objs.size (.lst (as.map V.ref))) (by omega) nd
  have off : ∀ b, b ∉ as → b ≠ s.heap.objs.size → putT2 (upd H s.heap.objs.size (.lst (as.map V.ref))) as kvs b = H b := fun b h1 h2 => by rw [putT2_off as kvs _ h1, upd_ne h2]
  have low : ∀ b o, s.heap.get? b = some o → b ∉ as ∧ b ≠ s.heap.objs.size := fun b o e => ⟨fun z => absurd (Heap.lt_size e) (Nat.not_lt.mpr (Nat.le_of_lt (hG.above b z))), Nat.ne_of_lt (Heap.lt_size e)⟩
  have kp : ∀ b u, H b = some u → (putT2 (upd H s.heap.objs.size (.lst (as.map V.ref))) as kvs) b = some u := fun b u e => by
    rw [off b (fun z => by rw [new b z] at e; cases e) (fun z => by rw [z, newS] at e; cases e)]
    exact e
  have eS : putT2 (upd H s.heap.objs.size (.lst (as.map V.ref))) as kvs s.heap.objs.size = some (.lst (as.map V.ref)) := by rw [putT2_off as kvs _ hSn, upd_same]
  refine ⟨putT2 (upd H s.heap.objs.size (.lst (as.map V.ref))) as kvs, kp, newS, eS, atP, ?_⟩
  refine I.call' (ch := []) rfl ⟨fun b o q _ _ _ => hk b o q, fun b o q _ _ _ => ⟨o.slots, hk b o q⟩, fun b o q n _ => ?_, fun b o q _ => ⟨o, hk b o q⟩, fun b xs q => kp b _ q, fun b o u q => kp b _ q, fun b ps q => ⟨#[], by rw [kp b _ q]; simp⟩⟩ (fun b u q => ?_) I.bare fun b z => by simp at z
  · obtain ⟨z1, z2⟩ := low b o q
    rw [off b z1 z2]
    exact n
  · by_cases hb : b ∈ as
    · obtain ⟨j, pk, e1, e2, e3⟩ := LiI.paired_ix atP hb
      rw [e3] at q
      cases q
      obtain ⟨hj, f3⟩ := hG.pairs j b e1
      obtain ⟨g1, g2⟩ := kv j pk es[j] e2 (Array.getElem?_eq_getElem hj)
      exact ⟨by show 2 ≤ sizeLine; decide, [es[j].key, es[j].val], .cons g1 (.cons g2 .nil), ⟨_, f3, rfl, _, rfl⟩⟩
    · by_cases hb2 : b = s.heap.objs.size
      · rw [hb2] at q ⊢
        rw [eS] at q
        cases q
        refine ⟨by rw [List.length_map]; omega, acc.toList, c, by rw [hacc]; exact LiI.vals_refs as, ?_⟩
        rw [Array.toArray_toList]
        exact hS
      · rw [off b hb hb2] at q
        exact (I.hok b u q).stay (fun d v _ y => hk d v y) (fun d y => kp d _ y) fun d xs y => kp d _ y
section
variable {X : Cx} {e : Expr} {te : TE} {p apos cpos pos : Pos}
theorem pe_listItemsO (hc : X.calm = true) (he : PE X e te) (hg : Gl X "list") (hm : X.mg "list" = none) (hbase : attributeBase e "items" X.env (eval e X.env) = eval e X.env := by rfl) (hline : (apos.endLine == cpos.line) = true := by rfl)
    (hs : starEach [.Call (.Attribute e "items" apos) [] [] cpos] X.env = (false, eval (.Call (.Attribute e "items" apos) [] [] cpos) X.env) :: starEach [] X.env := by rfl) :
    PE X (.Call (.Name "list" p) [.Call (.Attribute e "items" apos) [] [] cpos] [] pos) (fun σ H Q => te σ H fun x H1 => rItemsO X x H1 Q) := by
  refine ⟨fun pins s σ H Q I hq => ?_⟩
  refine wpAny_Call_Name_kw (ld_blt I hg hm PyProof.Rows.boot_list ?_)
  refine PyProof.Rows.callWith_type1 ?_ hs rfl
  rw [hs]
  show wpAny _ _ (spliced ((false, eval (.Call (.Attribute e "items" apos) [] [] cpos) X.env) :: backTo pos (starEach [] X.env))) _ _ s
  refine Calls.spliced_cons ?_
  refine wpAny_Call_method (T := "dict") (id := "dict.items") hbase rfl hline F.plainAttrs_dict F.slot_dict_items F.type_dict_items (thn (he.run pins s σ H _ I hq) fun u s1 ⟨x, H1, I1, rx, d, ks, kv, vs, ex, hd, l1, l2, q⟩ => ?_)
  subst ex
  obtain rfl : u = Value.ref d := rx
  obtain ⟨⟨hs0, hz, h1, h2, es, ep, h3, h4⟩, _⟩ := (show ObjOk X.prog X.w H1 s1.heap d (dO d (ents X.w ks kv vs)) from I1.hok d _ hd)
  have h4 : Paired EntIs (entL X.w ks kv.2 vs) es.toList := h4
  have hz : (entL X.w ks kv.2 vs).length ≤ sizeLine := hz
  obtain ⟨p1, p2⟩ := paired_ents (h := default) l1 l2 h4
  rw [ents_len l1 l2] at hz
  have sz : es.size = ks.length := by rw [← p1, Array.length_toList]
  have raw : s1.heap.DictRaw d es ep := ⟨_, h1, h2, h3⟩
  have I2 : Inv X pins σ H1 { s1 with heap := s1.heap.push { cls := .type "dict_items", data := .fields #[.ref d] } } := I1.kept (t' := s1.toks) fun b ob q => Heap.get?_push_of_some _ q
  refine ⟨dict_type h1 h2, fun b eb => by
    cases eb
    exact ⟨_, h1, h2.2.1⟩, ?_⟩
  show wpAny _ _ (callWith cpos (.builtin "dict.items") [.ref d] [] []) _ X.xe s1
  refine method_meetsIn F.slot_dict_items F.entry_dict_items rfl (PySem.evalArgs_none ⟨rfl, dict_type h1 h2, F.args_dict_items_1 _, _, meets_dict_items_raw d hs0, ⟨es, ep, raw⟩, ?_⟩)
  refine Calls.spliced_nil ?_
  refine PySem.W.dil_call (es := es) (ep := ep) (I1.ok.hd hc) ⟨_, Heap.get?_push_size _ rfl, rfl, rfl⟩ (raw.push _) (by omega) fun h' tk acc c as hk hS hl hG hacc => ?_
  have lz : (kv.2.zip vs).length = es.size := by rw [List.length_zip]; omega
  have kvp : ∀ (j : Nat) (p : V × V) (en : DictEntry), (kv.2.zip vs)[j]? = some p → es[j]? = some en → RelV p.1 en.key ∧ RelV p.2 en.val := fun j p en hp hen => by
    obtain ⟨g1, g2⟩ := List.getElem?_zip_eq_some.mp hp
    obtain ⟨k, x, y, e1, e2, e3, e4, e5, e6⟩ := p2 j en (by rw [Array.getElem?_toList]; exact hen)
    rw [g1] at e2
    rw [g2] at e3
    cases e2
    cases e3
    exact ⟨e5, e6⟩
  obtain ⟨H', k1, k2, k5, k6, J⟩ := items_laidO (tk := tk) (kvs := kv.2.zip vs) (es := es) I2 (by omega) kvp lz hk hS hl hG hacc
  exact ⟨.ref _, H', J, rfl, q H' _ as k1 k2 k5 k6⟩
end
section
variable {X : Cx} {W : Fm} {ρ : En} {K : Nat → D → Prop} {e : Expr} {pos p1 apos cpos : Pos}
/-- the pairs of a dict -/
def itemsD (ks ds : List D) : List D := (ks.zip ds).map fun p => .tup [p.1, p.2]
theorem rep_items {Kf : PySem.W.Frag} {w : World} {g : G} {H H' : Hp} {F : Addr → Prop} (hk : ∀ b o, H b = some o → H' b = some o) : ∀ {ks ds : List D} {kv vs : List V} {ts : List Addr}, RepL Kf w g H F ks kv → RepL Kf w g H F ds vs → ks.length = ds.length → Paired (fun (t : Addr) (q : V × V) => H' t = some (.tup [q.1, q.2])) ts (kv.zip vs) →
    RepL Kf w g H' F (itemsD ks ds) (ts.map V.ref)
  | [], ds, kv, vs, ts, h1, h2, hl, hp => by
    have e : kv = [] := h1
    subst e
    cases hp
    exact rfl
  | k :: ks, [], kv, vs, ts, h1, h2, hl, hp => by cases hl
  | k :: ks, d :: ds, kv, vs, ts, ⟨x, r, e, q1, q2⟩, ⟨y, r', e', q3, q4⟩, hl, hp => by
    subst e e'
    rw [List.zip_cons_cons] at hp
    cases hp with
    | cons h t =>
      refine ⟨_, _, rfl, ⟨_, _, rfl, .of h, x, [y], rfl, ?_, y, [], rfl, ?_, rfl⟩, rep_items hk q2 q4 (Nat.succ.inj hl) t⟩
      · exact Rep.mono (fun b ys e => hk b _ e) (fun b o u e => hk b _ e) (fun b o n e => ⟨hk b o e, n⟩) _ _ q1
      · exact Rep.mono (fun b ys e => hk b _ e) (fun b o u e => hk b _ e) (fun b o n e => ⟨hk b o e, n⟩) _ _ q3
theorem se_listItems (hm : X.mg "list" = none) (hc : X.calm = true) (h : SB X W ρ e fun n d => ∃ ks ds, d = .dct ks ds ∧ K n (.lst (itemsD ks ds))) (hg : Gl X "list" := by rfl) (hbase : attributeBase e "items" X.env (eval e X.env) = eval e X.env := by rfl) (hline : (apos.endLine == cpos.line) = true := by rfl)
    (hs : starEach [.Call (.Attribute e "items" apos) [] [] cpos] X.env = (false, eval (.Call (.Attribute e "items" apos) [] [] cpos) X.env) :: starEach [] X.env := by rfl) : SE X W ρ (.Call (.Name "list" p1) [.Call (.Attribute e "items" apos) [] [] cpos] [] pos) K :=
  SE.of (pe_listItemsO hc (pe_XB (W := W) (ρ := ρ)) hg hm hbase hline hs) fun σ H Q r f => ⟨ρ.n, r, _, h, fun v H1 n d s1 r1 q1 ⟨ks, ds, ed, k⟩ => by
    subst ed
    obtain ⟨a, kv, vs, e1, _, q, rk, rv, dk, hl⟩ := q1
    subst e1
    refine ⟨a, ks, kv, vs, rfl, q, rk.length, hl.trans rv.length, fun H' p ts hk hp hp' hts => ?_⟩
    exact f _ H' n (.lst (itemsD ks ds)) (s1.trans (.of hk)) (r1.stay hk) ⟨p, _, rfl, r1.fresh hp, hp', rep_items hk rk rv hl hts⟩ k⟩
end
end Sk
set_option maxHeartbeats 4000000
/-! S20: comprehensions that draw nothing. -/
namespace Sk
open PySem PySem.Spec PyProof.Rows L2
section
variable {X : Cx} {W : Fm} {ρ : En} {K : Nat → D → Prop} {elt iter c : Expr} {scope : Scope} {pos p1 : Pos}
/-- [elt for x in iter], each item's value by f -/
theorem sl_lcM (i : Nat) {x : Str} {α : Type} (hc : X.calm = true) (hN : X.N.Nodup) (h : SI X W ρ (.Name x p1) iter fun n ds => ∃ (xs : List α) (en f : α → D), ds = xs.map en ∧ xs.length ≤ 1000000 ∧
      (∀ y ∈ xs, ∀ (γ : List (D × V)) (W' : Fm), W'.g = W.g → ∀ s Hb C cl fp, ∀ Kq : Nat → D → Prop, Kq n (f y) → SE (Blk X scope s Hb C cl fp) W' ⟨n, (lendS ρ.s).set i (.va (en y)), γ⟩ elt Kq) ∧ K n (.lst (xs.map f)))
    (ok : blkC X.N X.env.scope scope [(x, i)] = true := by kernel_rfl) (hi : X.N[i]? = some x := by rfl) (hx : ∀ s Hb C cl fp, Loc (Blk X scope s Hb C cl fp).env.scope x := by intros; first | exact Or.inl rfl | exact Or.inr rfl)
    (hf : ∀ s Hb C cl fp, (Blk X scope s Hb C cl fp).fn x = true ∨ (Blk X scope s Hb C cl fp).env.scope.names.lookup x = some .local := by intros; first | exact .inl rfl | exact .inr rfl)
    (hs : ∀ x, foldedSetIterable iter X.env x = pure x := by intro _; rfl) : SL X W ρ (.ListComp elt [⟨.Name x p1, iter, [], 0⟩] scope pos) K := by
  refine sl_lc i hc hN ?_ ok hi hx hf hs
  obtain ⟨wi, pi, h⟩ := h
  refine ⟨wi, pi, fun σ H R r g => h σ H R r fun J0 H1 n ds γ s1 r1 ok1 ⟨xs, en, f, ed, hz, turn, k⟩ => g J0 H1 n ds γ s1 r1 ok1 ⟨by rw [ed, List.length_map]; exact hz, ?_⟩⟩
  subst ed
  refine ⟨fun j m acc => m = n ∧ acc = (xs.map f).take j, ⟨rfl, rfl⟩, fun j d m acc γ' W' hd ⟨em, ea⟩ hg s Hb C cl fp => ?_, fun m acc ⟨em, ea⟩ => ?_⟩
  · subst em ea
    rw [List.getElem?_map] at hd
    cases e : xs[j]? with
    | none => rw [e] at hd; cases hd
    | some y =>
      rw [e] at hd
      have ed : en y = d := Option.some.inj hd
      subst ed
      refine turn y (List.mem_of_getElem? e) γ' W' hg s Hb C cl fp _ ⟨rfl, ?_⟩
      rw [List.take_add_one, List.getElem?_map, e]
      rfl
  · subst em ea
    rw [List.length_map, ← List.length_map (f := f), List.take_length]
    exact k
/-- .. with an 'if' -/
theorem sl_lcF (i : Nat) {x : Str} {α : Type} (hc : X.calm = true) (hN : X.N.Nodup) (h : SI X W ρ (.Name x p1) iter fun n ds => ∃ (xs : List α) (en f : α → D) (q : α → Bool), ds = xs.map en ∧ xs.length ≤ 1000000 ∧
      (∀ y ∈ xs, ∀ (γ : List (D × V)) (W' : Fm), W'.g = W.g → ∀ s Hb C cl fp, ∀ Kq : Nat → Bool → Prop, Kq n (q y) → STt (Blk X scope s Hb C cl fp) W' ⟨n, (lendS ρ.s).set i (.va (en y)), γ⟩ c Kq) ∧
      (∀ y ∈ xs, q y = true → ∀ (γ : List (D × V)) (W' : Fm), W'.g = W.g → ∀ s Hb C cl fp, ∀ Kq : Nat → D → Prop, Kq n (f y) → SE (Blk X scope s Hb C cl fp) W' ⟨n, (lendS ρ.s).set i (.va (en y)), γ⟩ elt Kq) ∧ K n (.lst ((xs.filter q).map f)))
    (ok : blkC X.N X.env.scope scope [(x, i)] = true := by kernel_rfl) (hi : X.N[i]? = some x := by rfl) (hx : ∀ s Hb C cl fp, Loc (Blk X scope s Hb C cl fp).env.scope x := by intros; first | exact Or.inl rfl | exact Or.inr rfl)
    (hf : ∀ s Hb C cl fp, (Blk X scope s Hb C cl fp).fn x = true ∨ (Blk X scope s Hb C cl fp).env.scope.names.lookup x = some .local := by intros; first | exact .inl rfl | exact .inr rfl)
    (hs : ∀ x, foldedSetIterable iter X.env x = pure x := by intro _; rfl) : SL X W ρ (.ListComp elt [⟨.Name x p1, iter, [c], 0⟩] scope pos) K := by
  refine sl_lcI i hc hN ?_ ok hi hx hf hs
  obtain ⟨wi, pi, h⟩ := h
  refine ⟨wi, pi, fun σ H R r g => h σ H R r fun J0 H1 n ds γ s1 r1 ok1 ⟨xs, en, f, q, ed, hz, tst, turn, k⟩ => g J0 H1 n ds γ s1 r1 ok1 ⟨by rw [ed, List.length_map]; exact hz, ?_⟩⟩
  subst ed
  refine ⟨fun j m acc => m = n ∧ acc = ((xs.take j).filter q).map f, ⟨rfl, rfl⟩, fun j d m acc γ' W' hd ⟨em, ea⟩ hg s Hb C cl fp => ?_, fun m acc ⟨em, ea⟩ => ?_⟩
  · subst em ea
    rw [List.getElem?_map] at hd
    cases e : xs[j]? with
    | none => rw [e] at hd; cases hd
    | some y =>
      rw [e] at hd
      have ed : en y = d := Option.some.inj hd
      subst ed
      refine tst y (List.mem_of_getElem? e) γ' W' hg s Hb C cl fp _ ?_
      have et : xs.take (j + 1) = xs.take j ++ [y] := by
        rw [List.take_add_one, e]
        rfl
      cases hq : q y with
      | true =>
        rw [if_pos rfl]
        intro s Hb C cl fp
        refine turn y (List.mem_of_getElem? e) hq γ' W' hg s Hb C cl fp _ ⟨rfl, ?_⟩
        rw [et, List.filter_append, List.map_append]
        simp [hq]
      | false =>
        rw [if_neg Bool.false_ne_true]
        refine ⟨rfl, ?_⟩
        rw [et, List.filter_append, List.map_append]
        simp [hq]
  · subst em ea
    rw [List.length_map, List.take_length]
    exact k
end
end Sk
set_option maxHeartbeats 4000000
/-! S21: dicts over coded keys. -/
namespace Sk
open PySem PySem.Spec PyProof.Rows L2
section
variable {α β : Type} [DecidableEq α]
def aget (ks : List α) (vs : List β) (k : α) : Option β := (ks.findIdx? fun x => decide (x = k)).bind fun i => vs[i]?
def aputK (ks : List α) (k : α) : List α := match ks.findIdx? fun x => decide (x = k) with
  | some _ => ks
  | none => ks ++ [k]
def aputV (ks : List α) (vs : List β) (k : α) (v : β) : List β := match ks.findIdx? fun x => decide (x = k) with
  | some i => vs.set i v
  | none => vs ++ [v]
def dictA (prs : List (α × β)) : List α × List β := prs.foldl (fun a p => (aputK a.1 p.1, aputV a.1 a.2 p.1 p.2)) ([], [])
/-- a code of keys -/
structure Cod (en : α → D) : Prop where
  inj : ∀ a b, (en a).nk = (en b).nk → a = b
theorem at_map {en : α → D} (h : Cod en) (k : α) : ∀ (ks : List α), at? ((ks.map en).map D.nk) (en k).nk = ks.findIdx? fun x => decide (x = k)
  | [] => rfl
  | x :: ks => by
    have ih := at_map h k ks
    unfold at? at ih ⊢
    rw [List.map_cons, List.map_cons, List.findIdx?_cons, List.findIdx?_cons, ih]
    by_cases e : x = k
    · subst e
      rw [decide_eq_true rfl, decide_eq_true rfl]
    · rw [decide_eq_false e, decide_eq_false fun z => e (h.inj x k z)]
theorem dget_map {en : α → D} (h : Cod en) {f : β → D} {ks : List α} {vs : List β} {k : α} : dget (ks.map en) (vs.map f) (en k) = (aget ks vs k).map f := by
  unfold dget aget
  rw [at_map h]
  cases ks.findIdx? fun x => decide (x = k) with
  | none => rfl
  | some i =>
    show (vs.map f)[i]? = (vs[i]?).map f
    rw [List.getElem?_map]
theorem dputK_map {en : α → D} (h : Cod en) {ks : List α} {k : α} : dputK (ks.map en) (en k) = (aputK ks k).map en := by
  unfold dputK aputK
  rw [at_map h]
  cases ks.findIdx? fun x => decide (x = k) with
  | none => simp
  | some i => rfl
theorem dputV_map {en : α → D} (h : Cod en) {f : β → D} {ks : List α} {vs : List β} {k : α} {v : β} : dputV (ks.map en) (vs.map f) (en k) (f v) = (aputV ks vs k v).map f := by
  unfold dputV aputV
  rw [at_map h]
  cases ks.findIdx? fun x => decide (x = k) with
  | none => simp
  | some i => simp
theorem dictD_map {en : α → D} (h : Cod en) {f : β → D} (prs : List (α × β)) : dictD (prs.map fun p => (en p.1, f p.2)) = ((dictA prs).1.map en, (dictA prs).2.map f) := by
  unfold dictD dictA
  have gen : ∀ (l : List (α × β)) (ks : List α) (vs : List β), (l.map fun p => (en p.1, f p.2)).foldl (fun a p => (dputK a.1 p.1, dputV a.1 a.2 p.1 p.2)) (ks.map en, vs.map f) =
      ((l.foldl (fun a p => (aputK a.1 p.1, aputV a.1 a.2 p.1 p.2)) (ks, vs)).1.map en, (l.foldl (fun a p => (aputK a.1 p.1, aputV a.1 a.2 p.1 p.2)) (ks, vs)).2.map f) := by
    intro l
    induction l with
    | nil => exact fun ks vs => rfl
    | cons p l ih =>
      intro ks vs
      rw [List.map_cons, List.foldl_cons, List.foldl_cons]
      dsimp only
      rw [dputK_map h, dputV_map h]
      exact ih _ _
  exact gen prs [] []
theorem aget_in {ks : List α} {vs : List β} {k : α} (hl : ks.length = vs.length) : (aget ks vs k).isSome = decide (k ∈ ks) := by
  unfold aget
  cases e : ks.findIdx? fun x => decide (x = k) with
  | none =>
    have := List.findIdx?_eq_none_iff.mp e
    rw [decide_eq_false fun hm => by have := this k hm; simp at this]
    rfl
  | some i =>
    obtain ⟨hi, h1, _⟩ := List.findIdx?_eq_some_iff_getElem.mp e
    rw [decide_eq_true (by rw [← of_decide_eq_true h1]; exact List.getElem_mem hi)]
    show (vs[i]?).isSome = true
    rw [List.getElem?_eq_getElem (by omega)]
    rfl
theorem aput_len {ks : List α} {vs : List β} {k : α} {v : β} (h : ks.length = vs.length) : (aputK ks k).length = (aputV ks vs k v).length := by
  unfold aputK aputV
  cases ks.findIdx? fun x => decide (x = k) <;> simp [h]
theorem aputK_mem {ks : List α} {k x : α} (h : x ∈ aputK ks k) : x ∈ ks ∨ x = k := by
  unfold aputK at h
  cases e : ks.findIdx? fun x => decide (x = k) with
  | some i =>
    rw [e] at h
    exact .inl h
  | none =>
    rw [e] at h
    rcases List.mem_append.mp h with z | z
    · exact .inl z
    · exact .inr (by simpa using z)
end
end Sk
set_option maxHeartbeats 4000000
/-! S22: a, b = x, y. -/
namespace Sk
open PySem PySem.Spec PyProof.Rows L2
section
variable {X : Cx} {W : Fm} {ρ : En} {R : RD} {a b : Expr} {pos px py pt : Pos} {kt k2 : Nat} {pt2 : Pos}
theorem fb_sub {σ : L2.St} {s : List Sl} {p c : Addr} {i : Nat} {d : D} {W : Fm} (z : Fb W.O (σ.set i (some (.ref p))) (s.set i (.ow d)) c) : Fb (p :: W.O) σ s c := by
  rcases z with z | ⟨j, d', e1, e2⟩
  · exact .inl (List.mem_cons_of_mem _ z)
  · by_cases hj : j = i
    · subst hj
      obtain ⟨e3, e4⟩ := get_set_eq e2
      have e5 : V.ref c = V.ref p := Option.some.inj e3
      cases e5
      exact .inl List.mem_cons_self
    · rw [get_set_ne hj] at e1 e2
      exact .inr ⟨j, d', e1, e2⟩
/-- the first is new and the frame's own, the second a value -/
theorem sn_parFV (i j : Nat) {x y : Str} (hc : X.calm = true) (hN : X.N.Nodup) (hij : i ≠ j) (h : SF X W ρ a fun n d => ∀ p, SE X (W.add p) (ρ.to n) b fun m d2 => R.nx (((ρ.to m).set i (.ow d)).set j (.va d2)))
    (hi : X.N[i]? = some x := by rfl) (hj : X.N[j]? = some y := by rfl) (hx : X.env.scope.names.lookup x = some .local := by rfl) (hy : X.env.scope.names.lookup y = some .local := by rfl)
    (hw : swappedStores [.Tuple [.Name x px, .Name y py] kt pt] (.Tuple [a, b] k2 pt2) X.env = pure (some [x, y]) := by rfl)
    (hs : swapsWithSole [.Tuple [.Name x px, .Name y py] kt pt] (.Tuple [a, b] k2 pt2) pos.line X.env = pure false := by rfl)
    (hs1 : starEach [a, b] X.env = (false, eval a X.env) :: starEach [b] X.env := by rfl) (hs2 : starEach [b] X.env = (false, eval b X.env) :: starEach [] X.env := by rfl) :
    SN X W ρ (.Assign [.Tuple [.Name x px, .Name y py] kt pt] (.Tuple [a, b] k2 pt2) pos) R := by
  have pb : PE X b (fun σ H Q => ∃ p n, RE X.K X.w (W.add p) H σ (ρ.to n) ∧ ∃ K, SE X (W.add p) (ρ.to n) b K ∧ Fol X (W.add p) ρ σ H K Q) := by
    refine ⟨fun pins s σ H Q I h => ?_⟩
    obtain ⟨p, n, r, K, hS, hQ⟩ := h
    exact thn (hS pins s σ H I r) fun u s' ⟨v, H', m, d, I', rv, sm, r', p, k⟩ => ⟨v, H', I', rv, hQ v H' m d sm r' p k⟩
  refine SN.of (ps_par hc hN hi hj hij hx hy (pa_cons (pe_XF (W := W) (ρ := ρ)) (pa_cons pb pa_nil hs2) hs1) hw hs) fun σ H D r f => ⟨ρ.n, r, _, h, fun p H1 n d s1 hp r1 r2 c k => ⟨p, n, r2, _, k p, fun v H2 m d2 s2 r3 q2 k2 => ?_⟩⟩
  refine ⟨.ref p, v, rfl, f.nx _ H2 _ ?_ k2⟩
  have np : NotG W.g p := r.notG (r.fresh0 hp).2
  have c2 : Con X.K X.w W.g H2 (Fb (p :: W.O) σ ρ.s) p d := r2.con (W := W.add p) s2 (fun b n z => n (.inl z)) np c
  have rw : RE X.K X.w W H2 σ (ρ.to m) := r1.step (n := m) s2 fun q e => (r3.src q e).2.2.2
  have r4 : RE X.K X.w W H2 (σ.set i (some (.ref p))) ((ρ.to m).set i (.ow d)) := r3.setOw rw i (r.fresh0 hp).2 (r.fresh0 hp).1 c2
  refine r4.setVa j ?_
  exact r3.rep (W := W.add p) (.refl W.g H2) (fun b _ n _ z => n (fb_sub z)) (fun b n z => n (.inl z)) q2
/-- the first is a value, the second new and the frame's own -/
theorem sn_parVF (i j : Nat) {x y : Str} (hc : X.calm = true) (hN : X.N.Nodup) (hij : i ≠ j) (h : SE X W ρ a fun n d => SF X W (ρ.to n) b fun m d2 => R.nx (((ρ.to m).set i (.va d)).set j (.ow d2)))
    (hi : X.N[i]? = some x := by rfl) (hj : X.N[j]? = some y := by rfl) (hx : X.env.scope.names.lookup x = some .local := by rfl) (hy : X.env.scope.names.lookup y = some .local := by rfl)
    (hw : swappedStores [.Tuple [.Name x px, .Name y py] kt pt] (.Tuple [a, b] k2 pt2) X.env = pure (some [x, y]) := by rfl)
    (hs : swapsWithSole [.Tuple [.Name x px, .Name y py] kt pt] (.Tuple [a, b] k2 pt2) pos.line X.env = pure false := by rfl)
    (hs1 : starEach [a, b] X.env = (false, eval a X.env) :: starEach [b] X.env := by rfl) (hs2 : starEach [b] X.env = (false, eval b X.env) :: starEach [] X.env := by rfl) :
    SN X W ρ (.Assign [.Tuple [.Name x px, .Name y py] kt pt] (.Tuple [a, b] k2 pt2) pos) R := by
  refine SN.of (ps_par hc hN hi hj hij hx hy (pa_cons (pe_X (W := W) (ρ := ρ)) (pa_cons (pe_XF (W := W) (ρ := ρ)) pa_nil hs2) hs1) hw hs) fun σ H D r f => ⟨ρ.n, r, _, h, fun v H1 n d s1 r1 q1 k => ⟨n, r1, _, k, fun p H2 m d2 s2 hp r2 r3 c k2 => ?_⟩⟩
  refine ⟨v, .ref p, rfl, f.nx _ H2 _ ?_ k2⟩
  have fr := RE.fresh0 (ρ := ρ.to n) r1 hp
  have q2 : Rep X.K X.w W.g H2 (Fb W.O σ ρ.s) d v := r1.rep' s2 q1
  have q3 : Rep X.K X.w W.g H2 (Fb (p :: W.O) σ ρ.s) d v := r1.rep s2 (fun b u nb e z => by
    rcases z with z | z
    · rcases List.mem_cons.mp z with z | z
      · subst z
        rw [hp] at e
        cases e
      · exact nb (.inl z)
    · exact nb (.inr z)) (fun _ => fb_O) q1
  have r4 := r2.setVa (ρ := ρ.to m) i q2
  have r5 := r3.setVa (W := W.add p) (ρ := ρ.to m) i q3
  refine RE.setOw r5 r4 j fr.2 fr.1 ?_
  refine Con.mono (fun {ds vs} h => ?_) (fun _ e => e) c
  refine r3.repL (W := W.add p) (.refl W.g H2) (fun b u nb e z => nb ?_) (fun b n z => n (.inl z)) h
  rcases z with z | ⟨l, d', e1, e2⟩
  · exact .inl z
  · have e1' : (ρ.s.set i (.va d))[l]? = some (.ow d') := e1
    by_cases hl : l = i
    · subst hl
      cases (get_set_eq e1').1
    · rw [get_set_ne hl] at e1' e2
      exact .inr ⟨l, d', e1', e2⟩
end
end Sk
set_option maxHeartbeats 4000000
/-! S23: None in d.values(). -/
namespace Sk
open PySem PySem.Spec PyProof.Rows L2
open AutoSeq1 (wpAny_loadPart')

section
variable {prog : Program} {w : World} {A : Around} {E : Value → Shared → Prop} {s : Shared}
theorem dict_declines_none {a : Addr} {o : Obj} (ho : s.heap.get? a = some o) (hx : o.ExactDict) {Q : Value → Shared → Prop} (h : Q .notImplemented s) : wpAny (model prog w) A (call (.builtin "dict.__eq__") [.ref a, .none]) Q E s := by
  have ty := dict_type ho hx
  refine wpAny_call_entry PySem.F.slot_dict_eq ty PySem.F.entry_dict_eq ?_ (PySem.F.args_dict_eq_2 _ _)
  show wpAny _ _ (Builtin.Dict.dictSlotArgs "__eq__" ⟨[.ref a, .none], []⟩ >>= _) _ _ s
  refine wpAny_bind ?_
  unfold Builtin.Dict.dictSlotArgs
  refine wpAny_bind (wpAny_notOrdered_dict ty ?_)
  show wpAny _ _ (pure (Value.ref a, Value.none)) _ _ s
  refine wpAny_pure ?_
  refine wpAny_bind (wpAny_isInstance (T := "NoneType") (b := false) rfl PySem.F.sub_NoneType_dict ?_)
  simp only [Bool.not_false, if_true]
  first | exact wpAny_pure ⟨_, rfl, h⟩ | exact wpAny_bind (wpAny_rule (wpAny_pure ⟨_, rfl, h⟩)) | exact wpAny_bind (wpAny_pure ⟨_, rfl, h⟩)
theorem eqAt_dict_none {a : Addr} {o : Obj} (ho : s.heap.get? a = some o) (hx : o.ExactDict) (hu : A.units < cLine) : SeqAt.EqAt A s (.ref a) .none false := fun prog w E Q h => by
  unfold eqBool
  refine wpAny_holding ?_
  refine wpAny_ite_split (fun hab => absurd (eq_of_beq hab) nofun) (fun _ => ?_)
  refine wpAny_bind (SeqAt.rc_eq_decline_or (k := false) (dict_type ho hx) rfl (by decide) PySem.F.sub_NoneType_dict PySem.F.slot_dict_eq PySem.F.slot_NoneType_eq_refl
    (fun _ hq => dict_declines_none ho hx hq)
    (fun _ hq => call_gives PySem.F.slot_NoneType_eq_refl rfl PySem.F.entry_NoneType_eq (PySem.F.args_NoneType_eq_2 _ _) (SeqAt.NoneType___eq___none_ref_0 a) hq)
    (fun _ hq => wpAny_of_eq (rfl : isSame (.ref a) .none = pure false) hq) (.inr hu) (wpAny_truthy_bool h))
theorem ci_entry : entryFor table "proto.contains_iter" = some Builtin.«proto.contains_iter» := entryFor_of_fast (by kernel_rfl)
theorem ci_plain : plainId "proto.contains_iter" = true := by decide +kernel
/-- None, or a dict -/
def NonOrD (h : Heap) (it : Addr) (v : Value) : Prop := v = .none ∨ ∃ a o, v = .ref a ∧ a ≠ it ∧ h.get? a = some o ∧ o.ExactDict
theorem ci_loop {R : Result → Shared → Prop} {it d : Addr} {es : Array DictEntry} {ep : Nat} (hh : A.handled = none) (hu : A.units + 2 < cLine) (hd : d ≠ it) : ∀ (k i : Nat) (h : Heap), es.size - i = k → h.IsValIter it d i es.size ep → h.DictRaw d es ep → (∀ e ∈ es.toList, NonOrD h it e.val) →
    (∀ h', (∀ b o, b ≠ it → h.get? b = some o → h'.get? b = some o) → R (.ok (.ret (.bool ((es.toList.drop i).any fun e => PySem.Numpy.isNone e.val)))) { s with heap := h' }) →
    codeAny (model prog w) A (.builtin "proto.contains_iter" ⟨[.ref it, .none], []⟩) R { s with heap := h } := by
  intro k
  induction k with
  | zero =>
    intro i h hk hit hm hv hR
    refine codeAny_builtin ci_entry ?_
    rw [Around.under_plainId ci_plain _]
    show wpAny _ A.in1 (pyNext (.ref it) >>= _) _ _ _
    refine wpAny_bind (wpAny_pyNext_values_end_raw (s := { s with heap := h }) (A := A.in1) hh hit hm (by omega) fun h' eb => ?_)
    refine wpAny_bind (wpAny_rule (wpAny_pure ?_))
    have e : (es.toList.drop i) = [] := List.drop_of_length_le (by rw [Array.length_toList]; omega)
    have := hR h' fun b o hb e => eb b o hb e
    rw [e] at this
    exact this
  | succ k ih =>
    intro i h hk hit hm hv hR
    have hlt : i < es.size := by omega
    refine codeAny_builtin ci_entry ?_
    rw [Around.under_plainId ci_plain _]
    show wpAny _ A.in1 (pyNext (.ref it) >>= _) _ _ _
    refine wpAny_bind (wpAny_pyNext_values_item_raw (s := { s with heap := h }) hit hm hlt fun h' st' sb => ?_)
    have kp : ∀ b o, b ≠ it → h.get? b = some o → h'.get? b = some o := fun b o hb e => (sb.2 b hb).trans e
    have ed : es.toList.drop i = es[i] :: es.toList.drop (i + 1) := by
      rw [List.drop_eq_getElem_cons (by rw [Array.length_toList]; exact hlt)]
      rfl
    have hv' : ∀ e ∈ es.toList, NonOrD h' it e.val := fun e he => by
      rcases hv e he with z | ⟨a, o, z1, z2, z3, z4⟩
      · exact .inl z
      · exact .inr ⟨a, o, z1, z2, kp a o z2 z3, z4⟩
    have hm' : h'.DictRaw d es ep := hm.at fun o e => kp d o hd e
    have hmem : es[i] ∈ es.toList := Array.mem_toList_iff.mpr (Array.getElem_mem hlt)
    rcases hv' es[i] hmem with z | ⟨a, o, z1, z2, z3, z4⟩
    · rw [z]
      refine wpAny_bind (SeqAt.EqAt.same _ _ _ _ _ ?_)
      rw [if_pos rfl]
      refine wpAny_bind (wpAny_rule (wpAny_pure ?_))
      have := hR h' kp
      rw [ed, List.any_cons, z] at this
      exact this
    · rw [z1]
      refine wpAny_bind (eqAt_dict_none (s := { s with heap := h' }) z3 z4 (by show A.units + 1 < cLine; omega) _ _ _ _ ?_)
      rw [if_neg Bool.false_ne_true]
      refine wpAny_pure ⟨plainId_quiet ci_plain _, ih (i + 1) h' (by omega) st' hm' hv' fun h'' hk'' => ?_⟩
      have := hR h'' fun b o hb e => hk'' b o hb (kp b o hb e)
      rw [ed, List.any_cons, z1] at this
      exact this
end

theorem no_contains_values : typeLookup (.type "dict_values") "__contains__" = pure none := am_miss_of_fast (by decide +kernel)
section
variable {X : Cx} {W : Fm} {ρ : En} {o : Expr} {pos apos cpos p1 : Pos} {j : Nat}
def D.isNoD : D → Bool
  | .non => true
  | .dct _ _ => true
  | _ => false
theorem pc_noneVals (hc : X.calm = true) (hu : X.A.units + 9 < cLine) {K : Nat → Bool → Prop} (h : SB X W ρ o fun n x => ∃ ks ds, x = .dct ks ds ∧ ds.all D.isNoD = true ∧ K n (ds.any D.isN)) (hbase : attributeBase o "values" X.env (eval o X.env) = eval o X.env := by rfl) (hline : (apos.endLine == cpos.line) = true := by rfl) :
    PC X .In (.Constant .none j p1) (.Call (.Attribute o "values" apos) [] [] cpos) (fun σ H Q => ∃ n, RE X.K X.w W H σ (ρ.to n) ∧ n = ρ.n ∧ ∀ H' n k, SameG W.g H H' → RE X.K X.w W H' σ (ρ.to n) → K n k → Q (.bl k) H') := by
  refine ⟨fun pins s σ H Q I ⟨n0, r, en, f⟩ => ?_⟩
  subst en
  refine pe_non.run pins s σ H (fun v H' => v = .non ∧ H' = H) I ⟨rfl, rfl⟩ |> fun z => thn z fun u0 s0 ⟨v0, H0, I0, r0, ev0, eH0⟩ => ?_
  subst ev0 eH0
  obtain rfl : u0 = Value.none := r0
  refine wpAny_Call_method (T := "dict") (id := "dict.values") hbase rfl hline F.plainAttrs_dict F.slot_dict_values F.type_dict_values (thn (h pins s0 σ H0 I0 r) fun u s1 ⟨x, H1, n, dx, I1, rx, sm1, r1, p1, ks, ds, e, hall, kk⟩ => ?_)
  subst e
  obtain ⟨a, kv, vs, ea, ng, q, rk, rv, dk, hl⟩ := p1
  subst ea
  obtain rfl : u = Value.ref a := rx
  obtain ⟨ob, es, ep, O⟩ := dopen I1 q rk rv dk hl
  refine ⟨dict_type O.get O.ex, fun b eb => by
    cases eb
    exact ⟨ob, O.get, O.ex.2.1⟩, ?_⟩
  have raw : s1.heap.DictRaw a es ep := ⟨ob, O.get, O.ex, O.dat⟩
  -- each value is None or a dict
  have each : ∀ (i : Nat) (e : DictEntry), es[i]? = some e → ∃ d, ds[i]? = some d ∧ ((d = .non ∧ e.val = .none) ∨ (d.isN = false ∧ ∃ b o, e.val = .ref b ∧ s1.heap.get? b = some o ∧ o.ExactDict)) := fun i e he => by
    obtain ⟨x, y, hx, hy, q1, q2⟩ := O.val i e he
    obtain ⟨d, hd, hr⟩ := rv.get' hy
    refine ⟨d, hd, ?_⟩
    have hdd := List.all_eq_true.mp hall d (List.mem_of_getElem? hd)
    cases d with
    | non =>
      have ey : y = .non := hr
      subst ey
      exact .inl ⟨rfl, q2⟩
    | dct ks' ds' =>
      obtain ⟨b, kv', vs', eb, _, qb, _⟩ := hr
      subst eb
      obtain ⟨_, g1, g2, _⟩ := dO_open I1 qb
      exact .inr ⟨rfl, b, _, q2, g1, g2⟩
    | _ => cases hdd
  have hany : (es.toList.any fun e => PySem.Numpy.isNone e.val) = ds.any D.isN := by
    have lsz : es.toList.length = ds.length := by rw [Array.length_toList, O.size, hl]
    rw [Bool.eq_iff_iff, List.any_eq_true, List.any_eq_true]
    constructor
    · rintro ⟨e, he, hz⟩
      obtain ⟨i, hi⟩ := List.mem_iff_getElem?.mp he
      rw [Array.getElem?_toList] at hi
      obtain ⟨d, hd, z | ⟨_, b, o, z, _⟩⟩ := each i e hi
      · exact ⟨d, List.mem_of_getElem? hd, by rw [z.1]; rfl⟩
      · rw [z] at hz
        cases hz
    · rintro ⟨d, hd, hz⟩
      obtain ⟨i, hi⟩ := List.mem_iff_getElem?.mp hd
      have il : i < es.size := by rw [← Array.length_toList, lsz]; exact (List.getElem?_eq_some_iff.mp hi).1
      obtain ⟨d', hd', z | ⟨zn, _⟩⟩ := each i es[i] (Array.getElem?_eq_getElem il)
      · exact ⟨es[i], Array.mem_toList_iff.mpr (Array.getElem_mem il), by rw [z.2]; rfl⟩
      · rw [hi] at hd'
        cases hd'
        rw [zn] at hz
        cases hz
  have fin : wpAny (model X.prog X.w) X.A (compareOp .In .none (.ref s1.heap.objs.size)) (EP X pins σ Q) X.xe { s1 with heap := s1.heap.push { cls := .type "dict_values", data := .fields #[.ref a] } } := by
    have hT : Shared.TypeIs { s1 with heap := s1.heap.push { cls := .type "dict_values", data := .fields #[.ref a] } } (.ref s1.heap.objs.size) "dict_values" := ⟨_, Heap.get?_push_size _ rfl, rfl⟩
    show wpAny _ _ (do return Value.bool (← contains (.ref s1.heap.objs.size) .none)) _ _ _
    refine wpAny_bind ?_
    unfold contains
    refine wpAny_holding ?_
    rw [stdlibNamesSay?_of_typeIs hT]
    refine wpAny_bind (wpAny_specialOf hT no_contains_values ?_)
    rw [if_neg (by simp)]
    refine wpAny_bind ?_
    unfold callSpecialUnlessNone?
    refine wpAny_bind (wpAny_specialOf hT no_contains_values (wpAny_pure ?_))
    refine wpAny_bind (wpAny_rule ?_)
    refine wpAny_bind (wpAny_tryCatch ?_)
    refine wpAny_pyIter_values_raw (d := a) ⟨_, Heap.get?_push_size _ rfl, rfl, rfl⟩ (raw.push _) ?_
    have la : @LT.lt Nat _ a s1.heap.objs.size := Heap.lt_size O.get
    have k1 : ∀ b ob, s1.heap.get? b = some ob → ((s1.heap.push { cls := .type "dict_values", data := .fields #[.ref a] }).push { cls := .type "dict_valueiterator", data := .fields #[.ref a, .int 0 0, .int es.size 0, .int ep 0] }).get? b = some ob := fun b ob e => Heap.get?_push_of_some _ (Heap.get?_push_of_some _ e)
    refine wpAny_bind (wpAny_runValue (ci_loop (s := s1) (it := (s1.heap.push { cls := .type "dict_values", data := .fields #[.ref a] }).objs.size) (d := a) (es := es) (ep := ep) (I1.ok.hd hc) (by omega) ?_ es.size 0 _ (Nat.sub_zero _) ⟨_, Heap.get?_push_size _ rfl, rfl, rfl⟩ (raw.at fun o e => k1 a o e) (fun e he => ?_) fun h' hk => ?_))
    · rw [Heap.size_push]
      show @Ne Nat _ _
      omega
    · obtain ⟨i, hi⟩ := List.mem_iff_getElem?.mp he
      rw [Array.getElem?_toList] at hi
      obtain ⟨d, hd, z | ⟨_, b, o, z1, z2, z3⟩⟩ := each i e hi
      · exact .inl z.2
      · refine .inr ⟨b, o, z1, ?_, k1 b o z2, z3⟩
        have lb : @LT.lt Nat _ b s1.heap.objs.size := Heap.lt_size z2
        rw [Heap.size_push]
        show @Ne Nat _ _
        omega
    · rw [List.drop_zero, hany]
      refine wpAny_pure (wpAny_pure ⟨.bl _, H1, ?_, rfl, f H1 n _ sm1 r1 kk⟩)
      refine I1.kept (t' := s1.toks) fun b ob e => hk b ob ?_ (k1 b ob e)
      have lb : @LT.lt Nat _ b s1.heap.objs.size := Heap.lt_size e
      rw [Heap.size_push]
      show @Ne Nat _ _
      omega
  show wpAny _ _ (callWith cpos (.builtin "dict.values") [.ref a] [] []) _ X.xe s1
  exact method_meetsIn F.slot_dict_values F.entry_dict_values rfl (PySem.evalArgs_none ⟨rfl, dict_type O.get O.ex, F.args_dict_values_1 _, _, meets_dict_values_raw a O.sys, ⟨es, ep, raw⟩, fin⟩)
theorem st_noneVals (hc : X.calm = true) (hu : X.A.units + 9 < cLine) {K : Nat → Bool → Prop} (h : SB X W ρ o fun n x => ∃ ks ds, x = .dct ks ds ∧ ds.all D.isNoD = true ∧ K n (ds.any D.isN)) (hbase : attributeBase o "values" X.env (eval o X.env) = eval o X.env := by rfl) (hline : (apos.endLine == cpos.line) = true := by rfl)
    (hm : behindInMarks .In (.Call (.Attribute o "values" apos) [] [] cpos) = false := by rfl) : STt X W ρ (.Compare (.Constant .none j p1) [.In] [.Call (.Attribute o "values" apos) [] [] cpos] pos) K :=
  STt.of (pt_cmp (pc_noneVals (W := W) (ρ := ρ) hc hu (K := K) h hbase hline) hm) fun σ H Q r f => ⟨ρ.n, r, rfl, fun H' n k s1 r1 h1 => ⟨k, rfl, f k H' n s1 r1 h1⟩⟩
end
end Sk
set_option maxHeartbeats 4000000
/-! S24: loops of one turn; a def's loop body told simply. -/
namespace Sk
open PySem PySem.Spec PyProof.Rows L2
section
variable {X : Cx} {W : Fm} {ρ : En} {R : RD} {tg iter : Expr} {body : List Stmt} {pos : Pos}
theorem SI.imp {K K' : Nat → List D → Prop} (h : SI X W ρ tg iter K) (q : ∀ n ds, K n ds → K' n ds) : SI X W ρ tg iter K' := by
  obtain ⟨wi, pi, h⟩ := h
  exact ⟨wi, pi, fun σ H R r f => h σ H R r fun J H1 n ds γ s1 r1 ok k => f J H1 n ds γ s1 r1 ok (q n ds k)⟩
/-- what a turn leaves -/
def OneR (R : RD) (γ γ0 : List (D × V)) : RD := ⟨fun ρ' => ρ'.h = γ ∧ R.nx ⟨ρ'.n, ρ'.s, γ0⟩, R.rt, fun ρ' => ρ'.h = γ ∧ R.nx ⟨ρ'.n, ρ'.s, γ0⟩, fun ρ' => ρ'.h = γ ∧ R.nx ⟨ρ'.n, ρ'.s, γ0⟩⟩
/-- a loop over one item -/
theorem sn_for1 (hp : PassesOwn (model X.prog X.w) X.A X.env X.xe) (hc : X.calm = true) (h : SI X W ρ tg iter fun n ds => ∃ d, ds = [d] ∧ ∀ γ, SG X W ⟨n, ρ.s, γ⟩ tg d fun ρ' => SS X W ρ' body (OneR R γ ρ.h))
    (hs : ∀ x, foldedSetIterable iter X.env x = pure x := by intro _; rfl) : SN X W ρ (.For tg iter body [] pos) R := by
  refine sn_for hp hc (h.imp fun n ds ⟨d, ed, h1⟩ => ?_) hs
  subst ed
  refine ⟨fun k m s => (k = 0 → m = n ∧ s = ρ.s) ∧ (k ≠ 0 → R.nx ⟨m, s, ρ.h⟩), ⟨fun _ => ⟨rfl, rfl⟩, fun z => absurd rfl z⟩, fun k d' m s γ hd hJ => ?_, fun m s hJ => hJ.2 (by simp)⟩
  cases k with
  | zero =>
    obtain ⟨e1, e2⟩ := hJ.1 rfl
    subst e1 e2
    cases hd
    intro pins s σ H v u I r rv p
    refine thn (h1 γ pins s σ H v u I r rv p) fun _ s' ⟨σ', H', ρ', a1, a2, a3⟩ => ⟨σ', H', ρ', a1, a2, ?_⟩
    exact SS.imp a3 (fun ρ2 ⟨z1, z2⟩ => ⟨z1, fun z => absurd z (by decide), fun _ => z2⟩) (fun _ _ z => z) (fun ρ2 z => z) (fun ρ2 ⟨z1, z2⟩ => ⟨z1, fun z => absurd z (by decide), fun _ => z2⟩)
  | succ k => cases hd
end
end Sk
set_option maxHeartbeats 4000000
/-! S25: objects are made. -/
namespace Sk
open PySem PySem.Spec PyProof.Rows L2
structure SlfOk (W : Fm) (σ : L2.St) (x : Addr) : Prop where
  at0 : σ[0]? = some (some (.ref x))
  B : W.B x = none
  O : x ∈ W.O
  G : NotG W.g x
  C : ∀ q, W.g = some q → x ≠ q.2.2.1
/-- what is lent to the frame at slot 0 is written -/
theorem RE.writeBr {K : PySem.W.Frag} {w : World} {W : Fm} {H : Hp} {σ : L2.St} {ρ : En} (r : RE K w W H σ ρ) {x : Addr} (sl : SlfOk W σ x) {d d' : D} {c dx : Addr} {fs : List (Str × V)} {o : HO} (h0 : ρ.s[0]? = some (.br d)) (only : ∀ (j : Nat) (d : D), ρ.s[j]? = some (.br d) → j = 0) (hx : H x = some (.ins c dx fs))
    (cn : ∀ (F : Addr → Prop), (∀ {ds : List D} {vs : List V}, RepL K w W.g H (Fb W.O σ ρ.s) ds vs → RepL K w W.g (upd H x o) F ds vs) → Con K w W.g (upd H x o) F x d') : RE K w W (upd H x o) σ (ρ.set 0 (.br d')) := by
  have kp : ∀ b u, b ≠ x → H b = some u → (upd H x o) b = some u := fun b u n e => by rw [upd_ne n]; exact e
  have sub : ∀ b, Fb W.O σ (ρ.s.set 0 (.br d')) b → Fb W.O σ ρ.s b := fun b z => by
    rcases z with z | ⟨j, d1, e1, e2⟩
    · exact .inl z
    · by_cases hj : j = 0
      · subst hj
        cases (get_set_eq e1).1
      · rw [get_set_ne hj] at e1
        exact .inr ⟨j, d1, e1, e2⟩
  have hk : ∀ b u, ¬ Fb W.O σ ρ.s b → H b = some u → (upd H x o) b = some u ∧ ¬ Fb W.O σ (ρ.s.set 0 (.br d')) b := fun b u n e => ⟨kp b u (fun z => n (z ▸ .inl sl.O)) e, fun z => n (sub b z)⟩
  have ht : ∀ b ys, H b = some (HO.tup ys) → (upd H x o) b = some (HO.tup ys) := fun b ys e => kp b _ (fun z => by rw [z, hx] at e; cases e) e
  have hz : ∀ b ob u, H b = some (HO.frz ob u) → (upd H x o) b = some (HO.frz ob u) := fun b ob u e => kp b _ (fun z => by rw [z, hx] at e; cases e) e
  have up : ∀ {d1 : D} {v : V}, Rep K w W.g H (Fb W.O σ ρ.s) d1 v → Rep K w W.g (upd H x o) (Fb W.O σ (ρ.s.set 0 (.br d'))) d1 v := fun h => Rep.mono ht hz hk _ _ h
  have upL : ∀ {d1 : List D} {v : List V}, RepL K w W.g H (Fb W.O σ ρ.s) d1 v → RepL K w W.g (upd H x o) (Fb W.O σ (ρ.s.set 0 (.br d'))) d1 v := fun h => RepL.mono ht hz hk _ _ h
  refine ⟨by show (ρ.s.set 0 _).length = _; rw [List.length_set]; exact r.len, fun b u e n => kp b u (fun z => by rw [z, sl.B] at e; cases e) (r.same b u e n), fun q e => ?_, fun b h => ?_, fun q hq => up (r.gh q hq), fun i l e => ?_, fun j k d1 d2 b e1 e2 e3 e4 => ?_⟩
  · obtain ⟨h1, h2, h2', ⟨L, C, q', t, h3, h4, h5, h6⟩, tb⟩ := r.src q e
    have ng := sl.G q e
    exact ⟨h1, h2, h2', ⟨L, C, q', t, kp _ _ ng.1.symm h3, kp _ _ ng.2.1.symm h4, kp _ _ (sl.C q e).symm h5, h6⟩, tabs_upd tb hx (fun _ z => by cases z) fun _ => ins_code⟩
  · by_cases hb : b = x
    · subst hb
      exact ⟨o, upd_same⟩
    · obtain ⟨u, e⟩ := r.tr b h
      exact ⟨u, kp b u hb e⟩
  · have e' : (ρ.s.set 0 (.br d'))[i]? = some l := e
    by_cases hi : i = 0
    · subst hi
      obtain ⟨e1, _⟩ := get_set_eq e'
      subst e1
      exact ⟨x, sl.at0, sl.O, sl.G, cn _ upL⟩
    · rw [get_set_ne hi] at e'
      have h := r.slot i l e'
      cases l with
      | un => trivial
      | va d1 =>
        obtain ⟨v, e1, h⟩ := h
        exact ⟨v, e1, up h⟩
      | ow d1 =>
        obtain ⟨b, e1, m1, m2, h⟩ := h
        exact ⟨b, e1, m1, m2, Con.mono upL (fun u e => kp b u (fun z => m1 (z ▸ sl.O)) e) h⟩
      | br d1 => exact absurd (only i d1 e') hi
  · have e1' : (ρ.s.set 0 (.br d'))[j]? = some (.ow d1) := e1
    have e2' : (ρ.s.set 0 (.br d'))[k]? = some (.ow d2) := e2
    have old : ∀ {j : Nat} {d1 : D}, (ρ.s.set 0 (.br d'))[j]? = some (.ow d1) → ρ.s[j]? = some (.ow d1) := fun {j d1} e => by
      by_cases hj : j = 0
      · subst hj
        cases (get_set_eq e).1
      · rw [get_set_ne hj] at e
        exact e
    exact r.apart j k d1 d2 b (old e1') (old e2') e3 e4
/-- statements of an __init__: tests that are false, fields that are set -/
def SX (X : Cx) (W : Fm) (ρ : En) (sts : List Stmt) (K : En → Prop) : Prop :=
  ∀ (pins : List (Addr × Obj)) (s : Shared) (σ : L2.St) (H : Hp) (x : Addr), Inv X pins σ H s → RE X.K X.w W H σ ρ → SlfOk W σ x → wpAny (model X.prog X.w) X.A (execs sts X.env)
    (fun f s' => f = .next ∧ ∃ H' ρ', Inv X pins σ H' s' ∧ RE X.K X.w W H' σ ρ' ∧ K ρ') X.xe s
section
variable {X : Cx} {W : Fm} {ρ : En} {K : En → Prop} {c e : Expr} {a sts : List Stmt} {pos p1 p2 : Pos}
theorem sx_nil (h : K ρ) : SX X W ρ [] K := fun pins s σ H x I r sl => thn ((pss_nil (X := X)).run pins s σ H ⟨fun σ' H' => σ' = σ ∧ H' = H, fun _ _ => False, fun _ _ => False, fun _ _ => False⟩ I ⟨rfl, rfl⟩) fun f s' q => by
  cases f with
  | next =>
    obtain ⟨σ', H', I', e1, e2⟩ := q
    subst e1 e2
    exact ⟨rfl, H', ρ, I', r, h⟩
  | brk => obtain ⟨_, _, _, z⟩ := q; exact z.elim
  | cont => obtain ⟨_, _, _, z⟩ := q; exact z.elim
  | ret u => obtain ⟨_, _, _, _, _, z⟩ := q; exact z.elim
/-- if c: ..., c false -/
theorem sx_if (h : STt X W ρ c fun n k => k = false ∧ SX X W (ρ.to n) sts K) : SX X W ρ (.If c a [] pos :: sts) K := fun pins s σ H x I r sl => by
  refine wpAny_execs_cons (thn ((ps_if (pt_X (W := W) (ρ := ρ) (X := X) (e := c)) (pss_X (W := W) (sts := a)) pss_nil).run pins s σ H ⟨fun σ' H' => σ' = σ ∧ ∃ n, RE X.K X.w W H' σ (ρ.to n) ∧ SX X W (ρ.to n) sts K, fun _ _ => False, fun _ _ => False, fun _ _ => False⟩ I ⟨ρ.n, r, _, h, fun k H1 n s1 r1 h1 => ?_⟩) fun f s' q => ?_)
  · obtain ⟨e1, h1⟩ := h1
    subst e1
    rw [if_neg Bool.false_ne_true]
    exact ⟨rfl, n, r1, h1⟩
  · cases f with
    | next =>
      obtain ⟨σ', H', I', e1, n, r', h'⟩ := q
      subst e1
      exact h' pins s' σ' H' x I' r' sl
    | brk => obtain ⟨_, _, _, z⟩ := q; exact z.elim
    | cont => obtain ⟨_, _, _, z⟩ := q; exact z.elim
    | ret u => obtain ⟨_, _, _, _, _, z⟩ := q; exact z.elim
theorem putF_new {f : Str} {y : V} : ∀ {ns : List Str} {vs : List V}, ns.length = vs.length → f ∉ ns → putF f y (ns.zip vs) = (ns ++ [f]).zip (vs ++ [y])
  | [], [], _, _ => rfl
  | n :: ns, v :: vs, hl, hn => by
    have h1 : ¬ n = f := fun z => hn (by rw [z]; exact List.mem_cons_self)
    show (if n = f then (n, y) :: ns.zip vs else (n, v) :: putF f y (ns.zip vs)) = (n, v) :: (ns ++ [f]).zip (vs ++ [y])
    rw [if_neg h1, putF_new (Nat.succ.inj hl) fun z => hn (List.mem_cons_of_mem _ z)]
/-- self.f = e -/
theorem sx_set {self f : Str} {C : Addr} {ns : List Str} {ds : List D} (hC : Cls X.K C) (hA : NoAttr X.K C f) (hf : f ∉ ns) (hl : ns.length < 1000) (only : ∀ (j : Nat) (d : D), ρ.s[j]? = some (.br d) → j = 0)
    (h : SE X W ρ e fun n d => SX X W ((ρ.to n).set 0 (.br (.obj C (ns ++ [f]) (ds ++ [d])))) sts K)
    (h0 : ρ.s[0]? = some (.br (.obj C ns ds)) := by rfl) (hN : X.N[0]? = some self := by rfl) (hv : Vis X.env.scope self := by first | exact Or.inl rfl | exact Or.inr (Or.inl rfl) | exact Or.inr (Or.inr rfl)) (hdb : (self == ("__debug__" : Str)) = false := by decide) (hcd : (self == ("__classdict__" : Str)) = false := by decide)
    (hs : swapsWith e (some (.Attribute (.Name self p1) f p2)) pos.line X.env = pure false := by rfl) : SX X W ρ (.Assign [.Attribute (.Name self p1) f p2] e pos :: sts) K := fun pins s σ H x I r sl => by
  refine wpAny_execs_cons (thn ((ps_fld (pe_var hN hv hdb hcd) (pe_X (W := W) (ρ := ρ)) hs).run pins s σ H ⟨fun σ' H' => σ' = σ ∧ ∃ n d, RE X.K X.w W H' σ ((ρ.to n).set 0 (.br (.obj C (ns ++ [f]) (ds ++ [d])))) ∧ SX X W ((ρ.to n).set 0 (.br (.obj C (ns ++ [f]) (ds ++ [d])))) sts K, fun _ _ => False, fun _ _ => False, fun _ _ => False⟩ I ⟨ρ.n, r, _, h, fun v H1 n d s1 r1 q1 h1 => ?_⟩) fun f s' q => ?_)
  · obtain ⟨x', e0, n1, n2, dx, vs, q, rl, hlen⟩ := r1.slot 0 _ h0
    rw [sl.at0] at e0
    cases e0
    have lv : ns.length = vs.length := hlen.trans rl.length
    refine ⟨.ref x, sl.at0, x, C, dx, ns.zip vs, rfl, q, hC, hA, ?_, rfl, n, d, ?_, h1⟩
    · rw [List.length_zip]
      omega
    · refine r1.writeBr (ρ := ρ.to n) sl h0 only q fun F up => ⟨dx, vs ++ [v], ?_, up (rl.append ⟨v, [], rfl, q1, rfl⟩), ?_⟩
      · rw [upd_same, putF_new lv hf]
      · rw [List.length_append, List.length_append, hlen]
        rfl
  · cases f with
    | next =>
      obtain ⟨σ', H', I', e1, n, d, r', h'⟩ := q
      subst e1
      exact h' pins s' σ' H' x I' r' sl
    | brk => obtain ⟨_, _, _, z⟩ := q; exact z.elim
    | cont => obtain ⟨_, _, _, z⟩ := q; exact z.elim
    | ret u => obtain ⟨_, _, _, _, _, z⟩ := q; exact z.elim
end

/-! ### contracts of an __init__ -/
def spI (K : PySem.W.Frag) (w : World) (C : Addr) (ct : CT) : Sp := fun vs H Q _ => ∃ (x dx : Addr) (rest : List V) (B : Hp) (g : G) (O : List Addr) (n : Nat) (ds : List D) (Kp : Nat → D → Prop), vs = .ref x :: rest ∧ H x = some (.ins C dx []) ∧ B x = none ∧ Same B H ∧ Cal K g O B n ∧ RepL K w g B (· ∈ O) ds rest ∧ ct n ds Kp ∧
  ∀ H' n' d, SameG g B H' → Cal K g O H' n' → Con K w g H' (· ∈ x :: O) x d → Kp n' d → Q .non H'
/-- the class x at C can be made, by the contract -/
def MakeOk (P : Program) (w : World) (K : PySem.W.Frag) (mg : Str → Option Value) (base : Heap) (x : Str) (C : Addr) (k : Nat) (ps : List Str) (ct : CT) : Prop :=
  ∃ f fd, FnOk P w K mg base CX0 k f fd ps (spI K w C ct) ∧ mg x = some (.ref C) ∧ Mk K C f ∧ Binds K fd ps []
def startI (N : List Str) (C : Addr) (ds : List D) : List Sl := .br (.obj C [] []) :: (ds.map Sl.va ++ List.replicate (N.length - (ds.length + 1)) Sl.un)
theorem re_startI {K : PySem.W.Frag} {w : World} {g : G} {O : List Addr} {B H : Hp} {n : Nat} {N : List Str} {ds : List D} {vs : List V} {x dx C : Addr} (c : Cal K g O B n) (hx : H x = some (.ins C dx [])) (hB : B x = none) (sm : Same B H) (h : RepL K w g B (· ∈ O) ds vs) :
    RE K w ⟨g, x :: O, B⟩ H (L2.start N (.ref x :: vs)) ⟨n, startI N C ds, []⟩ ∧ SlfOk ⟨g, x :: O, B⟩ (L2.start N (.ref x :: vs)) x := by
  have get : ∀ (i : Nat) (l : Sl), (startI N C ds)[i + 1]? = some l → l = .un ∨ ∃ d, l = .va d ∧ ds[i]? = some d := fun i l e => by
    have e' : (ds.map Sl.va ++ List.replicate (N.length - (ds.length + 1)) Sl.un)[i]? = some l := e
    by_cases hi : i < ds.length
    · rw [List.getElem?_append_left (by rw [List.length_map]; exact hi), List.getElem?_map, List.getElem?_eq_getElem hi] at e'
      exact .inr ⟨ds[i], (Option.some.inj e').symm, List.getElem?_eq_getElem hi⟩
    · rw [List.getElem?_append_right (by rw [List.length_map]; omega)] at e'
      obtain ⟨_, h2⟩ := List.getElem?_eq_some_iff.mp e'
      rw [List.getElem_replicate] at h2
      exact .inl h2.symm
  have no : ∀ (i : Nat) (d : D), (startI N C ds)[i]? ≠ some (.ow d) := fun i d e => by
    cases i with
    | zero => cases e
    | succ i => rcases get i _ e with z | ⟨_, z, _⟩ <;> cases z
  have fb : ∀ b, Fb (x :: O) (L2.start N (.ref x :: vs)) (startI N C ds) b → b ∈ x :: O := fun b z => by
    rcases z with z | ⟨i, d, e, _⟩
    · exact z
    · exact absurd e (no i d)
  have ng : NotG g x := fun p e => by
    obtain ⟨_, _, _, ⟨L, C', q, t, h1, h2, _⟩, tb⟩ := c.src p e
    refine ⟨fun z => ?_, fun z => ?_, fun t ht z => ?_⟩
    · rw [← z, hB] at h1
      cases h1
    · rw [← z, hB] at h2
      cases h2
    · obtain ⟨ps, h3, _⟩ := tb t ht
      rw [← z, hB] at h3
      cases h3
  have nc : ∀ q, g = some q → x ≠ q.2.2.1 := fun p e z => by
    obtain ⟨_, _, _, ⟨L, C', q, t, h1, h2, h3, _⟩, _⟩ := c.src p e
    rw [← z, hB] at h3
    cases h3
  have el := h.length
  have s0 : (L2.start N (.ref x :: vs))[0]? = some (some (.ref x)) := rfl
  refine ⟨⟨?_, .of sm, fun p e => ?_, fun a ha => ?_, fun p hp => (nomatch hp), fun i l e => ?_, fun i j d d' a e1 _ _ _ => absurd e1 (no i d)⟩, ⟨s0, hB, List.mem_cons_self, ng, nc⟩⟩
  · show (startI N C ds).length = (L2.start N (.ref x :: vs)).length
    unfold startI L2.start
    rw [List.length_cons, List.length_append, List.length_append, List.length_map, List.length_map, List.length_replicate, List.length_replicate, List.length_cons, el]
    omega
  · obtain ⟨h1, h2, h3, h4⟩ := c.src p e
    exact ⟨List.mem_cons_of_mem _ h1, List.mem_cons_of_mem _ h2, ⟨List.mem_cons_of_mem _ h3.1, fun t ht => List.mem_cons_of_mem _ (h3.2 t ht)⟩, h4.same sm⟩
  · rcases List.mem_cons.mp ha with z | z
    · subst z
      exact ⟨_, hx⟩
    · obtain ⟨o, e⟩ := c.tr a z
      exact ⟨o, sm a o e⟩
  · cases i with
    | zero =>
      cases e
      exact ⟨x, s0, List.mem_cons_self, ng, dx, [], hx, rfl, rfl⟩
    | succ i =>
      rcases get i l e with z | ⟨d, z, hd⟩
      · subst z
        trivial
      · subst z
        obtain ⟨v, hv, hr⟩ := h.get hd
        refine ⟨v, start_val (show (V.ref x :: vs)[i + 1]? = some v from hv), Rep.mono (fun b ys e => sm b _ e) (fun b o u e => sm b _ e) (fun b o n e => ⟨sm b o e, fun z => ?_⟩) _ _ hr⟩
        rcases List.mem_cons.mp (fb b z) with z | z
        · subst z
          rw [hB] at e
          cases e
        · exact n z
/-- THE RULE for an __init__ -/
theorem init_ok {P : Program} {w : World} {K : PySem.W.Frag} {mg : Str → Option Value} {base : Heap} {nm qual cls : Str} {st : Stmt} {f C : Addr} {fd : FuncData} {N ps : List Str} {k : Nat} {ct : CT} (F : Fun K nm qual st f fd) (hm : mg cls = some (.ref C)) (M : Mk K C f) (hb : Binds K fd ps [])
    (S : FnScope N ps (defScope st)) (len : ∀ n ds Kp, ct n ds Kp → ds.length + 1 = ps.length)
    (body : ∀ (cdv : Value) (A : Around) (outer : List Env) (s : Shared) (H : Hp) (E : XK) (W : Fm) (n : Nat) (ds : List D) (Kp : Nat → D → Prop), Room k (A.deeper (envOfC qual (defScope st) s.heap.objs.size f cdv)) → ct n ds Kp →
      SX (cxOf CX0 P w K mg base N qual (defScope st) f cdv A outer s H E).nox W ⟨n, startI N C ds, []⟩ (defBody st) fun ρ' => ∃ d, ρ'.s[0]? = some (.br d) ∧ (∀ (i : Nat) (d : D), ρ'.s[i]? ≠ some (.ow d)) ∧ Kp ρ'.n d) : MakeOk P w K mg base cls C (k + 1) ps ct := by
  refine ⟨f, fd, F.ok S (fun vs H Q E h => ?_) (fun cdv A outer s H vs Q E hr h => ?_), hm, M, hb⟩
  · obtain ⟨x, dx, rest, B, g, O, n, ds, Kp, ev, _, _, _, _, hR, hc, _⟩ := h
    rw [ev, List.length_cons, ← hR.length]
    exact len n ds Kp hc
  · obtain ⟨x, dx, rest, B, g, O, n, ds, Kp, ev, hx, hB, sm, cal, hR, hc, q⟩ := h
    subst ev
    obtain ⟨r0, sl⟩ := re_startI (N := N) cal hx hB sm hR
    refine ⟨fun D σ H => ∃ ρ, RE K w ⟨g, x :: O, B⟩ H σ ρ ∧ SlfOk ⟨g, x :: O, B⟩ σ x ∧ ∃ Kf, SX _ ⟨g, x :: O, B⟩ ρ (defBody st) Kf ∧ ∀ H' ρ', RE K w ⟨g, x :: O, B⟩ H' σ ρ' → Kf ρ' → D.nx σ H', ⟨fun pins s σ H D I h => ?_⟩, ⟨_, r0, sl, _, body cdv A outer s H E ⟨g, x :: O, B⟩ n ds Kp hr hc, fun H' ρ' r' ⟨d, h0, no, kk⟩ => ?_⟩⟩
    · obtain ⟨ρ, r, sl, Kf, hS, hQ⟩ := h
      refine thn (hS pins s σ H x I r sl) fun fl s' ⟨e, H', ρ', I', r', k'⟩ => ?_
      subst e
      exact ⟨σ, H', I', hQ H' ρ' r' k'⟩
    · obtain ⟨x', e0, n1, n2, cn⟩ := r'.slot 0 _ h0
      rw [sl.at0] at e0
      cases e0
      refine q H' ρ'.n d r'.same ⟨fun p e => ?_, fun a ha => r'.tr a (List.mem_cons_of_mem _ ha)⟩ (Con.mono (fun {ds vs} h => ?_) (fun _ e => e) cn) kk
      · obtain ⟨h1, h2, h3, h4⟩ := cal.src p e
        exact ⟨h1, h2, h3, (r'.src p e).2.2.2⟩
      · refine RepL.mono (fun _ _ e => e) (fun _ _ _ e => e) (fun b o n e => ⟨e, fun z => n (.inl z)⟩) _ _ h
section
variable {X : Cx} {W : Fm} {ρ : En} {K : Nat → D → Prop} {e : Expr} {es : List Expr} {pos p1 : Pos}
/-- C(..) -/
theorem sf_make {x : Str} {C : Addr} {k : Nat} {ps : List Str} {ct : CT} (hD : MakeOk X.prog X.w X.K X.mg X.base x C k ps ct) (hr : Room (k + 1) X.A) (h : SA X W ρ (e :: es) fun n ds => ct n ds K) (hg : Gl X x := by rfl) (hdb : (x == ("__debug__" : Str)) = false := by decide) (he : starEach (e :: es) X.env = (false, eval e X.env) :: starEach es X.env := by rfl) (hpl : (backTo pos (starEach es X.env)).any (·.1) = false := by rfl) :
    SF X W ρ (.Call (.Name x p1) (e :: es) [] pos) K := by
  obtain ⟨f, fd, F, hm, M, hb⟩ := hD
  refine SF.of (pe_make M F hr hg hm hb .nil pass0 (pa_X (W := W) (ρ := ρ)) (hdb := hdb) (he := he) (hpl := hpl)) fun σ H Q r f => ⟨ρ.n, r, _, h, fun vs H1 n ds s1 r1 p1 hc x dx hx hdx hne => ?_⟩
  rw [List.append_nil]
  have sm : Same H1 (upd (upd H1 dx (.own x)) x (.ins C dx [])) := fun b o e => by
    rw [upd_ne (ne_of_none e hx), upd_ne (ne_of_none e hdx)]
    exact e
  have cal : Cal X.K W.g (W.O ++ ownsOf σ ρ.s) H1 n := by
    refine ⟨fun p e => ?_, fun a ha => ?_⟩
    · obtain ⟨h1, h2, h3, h4⟩ := r1.src p e
      exact ⟨List.mem_append_left _ h1, List.mem_append_left _ h2, ⟨List.mem_append_left _ h3.1, fun t ht => List.mem_append_left _ (h3.2 t ht)⟩, h4⟩
    · rcases List.mem_append.mp ha with z | z
      · exact r1.tr a z
      · obtain ⟨i, d, e1, e2⟩ := mem_owns.mp z
        obtain ⟨a', e3, _, _, c⟩ := r1.slot i _ e1
        rw [e2] at e3
        cases e3
        exact c.there
  refine ⟨x, dx, vs, H1, W.g, W.O ++ ownsOf σ ρ.s, n, ds, K, rfl, upd_same, hx, sm, cal, r1.repL (.refl W.g H1) (fun b _ n _ z => n (fb_iff.mpr z)) (fun _ => fb_O) p1, hc, fun H' n' d s c cn kk => ⟨rfl, ?_⟩⟩
  have hx0 : H x = none := r.free r1 s1 x hx
  have src : ∀ q, W.g = some q → SrcOk X.K H' q n' := fun q e => (c.src q e).2.2.2
  obtain ⟨o, ho⟩ := cn.there
  refine f x H' n' d (s1.trans s) hx0 (r1.step s src) (r1.addAt (ρ := ρ.to n) hx s ho src) (Con.mono (fun {ds vs} h => ?_) (fun _ e => e) cn) kk
  refine RepL.mono (fun _ _ e => e) (fun _ _ _ e => e) (fun b o n e => ⟨e, fun z => n ?_⟩) _ _ h
  rcases z with z | z
  · rcases List.mem_cons.mp z with z | z
    · rw [z]
      exact List.mem_cons_self
    · exact List.mem_cons_of_mem _ (List.mem_append_left _ z)
  · exact List.mem_cons_of_mem _ (List.mem_append_right _ (mem_owns.mpr z))
end
end Sk
set_option maxHeartbeats 4000000
/-! S26: sorted of one text, len(set(..)), join, a text's head. -/
namespace Sk
open PySem PySem.Spec PyProof.Rows L2
section
variable {X : Cx} {W : Fm} {ρ : En} {K : Nat → D → Prop} {e o : Expr} {pos p1 p2 p3 apos : Pos}
/-- len(set([one text])) -/
theorem se_lenSet1 (hm : X.mg "len" = none) (hm2 : X.mg "set" = none) (hc : X.calm = true) (h : SB X W ρ e fun n d => ∃ x, d = .lst [.str x] ∧ K n (.int 1)) (hg : Gl X "len" := by rfl) (hg2 : Gl X "set" := by rfl) (na : starEach [e] X.env = (false, eval e X.env) :: starEach [] X.env := by rfl) :
    SE X W ρ (.Call (.Name "len" p1) [.Call (.Name "set" p2) [e] [] p3] [] pos) K :=
  SE.of (pe_lenSet hc hg hm hg2 hm2 (pe_XB (W := W) (ρ := ρ)) na) fun σ H Q r f => ⟨ρ.n, r, _, h, fun v H1 n d s1 r1 q1 ⟨x, ed, k⟩ => by
    subst ed
    obtain ⟨a, vs, e1, _, q, rl⟩ := q1
    obtain ⟨v', r', e2, e3, e4⟩ := rl
    have e3' : v' = .str x := e3
    have e4' : r' = [] := e4
    subst e2 e3' e4'
    exact ⟨a, [x], e1, .inl (.of q), Nat.le_refl _, f _ H1 n (.int 1) s1 r1 rfl k⟩⟩
/-- sorted of a list of one item -/
def rSort1 (K : PySem.W.Frag) : List V → Hp → VK → Prop := fun vs H Q => ∃ (a : Addr) (x : V), vs = [V.ref a] ∧ SqL K H a [x] ∧ ∀ p, H p = none → Q (.ref p) (upd H p (.lst [x]))
theorem cr_sorted1 : CallR X (.builtin "sorted") (rSort1 X.K) := by
  intro pins s σ H vs us Q I r h
  obtain ⟨a, x, rfl, hs, q⟩ := h
  obtain ⟨its, rv, hl, hz⟩ := I.list hs
  obtain ⟨u, rfl, ru⟩ := vals1 r
  obtain rfl : u = Value.ref a := ru
  obtain ⟨y, rfl, ry⟩ := vals1 rv
  refine Srt.sorted_any hl.isList (by show 1 ≤ sizeLine; decide) (fun h2 => absurd h2 (by simp)) fun out ho => ?_
  have eo : out = [y] := List.perm_singleton.mp ho
  subst eo
  obtain ⟨n, hn⟩ := PyProof.Rows.sortedAll_at s.heap [y] [y].toArray
  refine ⟨.ref (s.heap.objs.size + 1), upd H (s.heap.objs.size + 1) (.lst [x]), I.laid (t' := s.toks) (fun b o e => PyProof.Rows.sortedAll_old e) (Nat.le_succ _) ⟨by show 1 ≤ sizeLine; decide, [y], n, .cons ry .nil, hn⟩, rfl, q _ (I.hok.fresh (Nat.le_succ _))⟩
theorem sf_sorted1 (hm : X.mg "sorted" = none) (h : SB X W ρ e fun n d => ∃ x, d = .lst [x] ∧ K n (.lst [x])) (hg : Gl X "sorted" := by rfl) (hs : starEach [e] X.env = (false, eval e X.env) :: starEach [] X.env := by rfl) : SF X W ρ (.Call (.Name "sorted" p1) [e] [] pos) K :=
  sf_b1 cr_sorted1 hm boot_sorted (h.imp fun n d ⟨x, ed, k⟩ => by
    subst ed
    intro σ H v Q r p f
    obtain ⟨a, vs, e1, _, q, rl⟩ := p
    obtain ⟨v', r', e2, e3, e4⟩ := id rl
    have e4' : r' = [] := e4
    subst e1 e2 e4'
    exact ⟨a, v', rfl, .of q, fun p hp => f.lst r rl k hp⟩) hg (hs := hs)
/-- sep.join(texts) -/
theorem rep_strs {Kf : PySem.W.Frag} {w : World} {g : G} {H : Hp} {F : Addr → Prop} : ∀ {ys : List Str} {vs : List V}, RepL Kf w g H F (ys.map D.str) vs → vs = ys.map V.str
  | [], vs, h => h
  | y :: ys, vs, ⟨v, r, e, h1, h2⟩ => by
    rw [e, show v = .str y from h1, rep_strs h2]
    rfl
theorem se_join (h : SE X W ρ o fun n x => ∃ a, x = .str a ∧ SB X W (ρ.to n) e fun m d => ∃ ys : List Str, d = .lst (ys.map D.str) ∧ (ys.map (·.length)).sum + ys.length * a.length ≤ 16777216 ∧ K m (.str (Txt.join a ys)))
    (hs : starEach [e] X.env = [(false, eval e X.env)] := by rfl) (hbase : attributeBase o "join" X.env (eval o X.env) = eval o X.env := by rfl) (hline : (apos.endLine == pos.line) = true := by rfl) : SE X W ρ (.Call (.Attribute o "join" apos) [e] [] pos) K :=
  SE.of (pe_join (pe_X (W := W) (ρ := ρ)) (pe_XB (W := W) (ρ := ρ)) hs hbase hline) fun σ H Q r f => ⟨ρ.n, r, _, h, fun v H1 n d s1 r1 q1 ⟨a, ea, h1⟩ => by
    subst ea
    have ev : v = .str a := q1
    subst ev
    refine ⟨⟨a, rfl⟩, n, r1, _, h1, fun v2 H2 m d2 s2 r2 q2 ⟨ys, ed, hz, k⟩ => ?_⟩
    subst ed
    obtain ⟨p, vs, e1, _, q, rl⟩ := q2
    subst e1
    rw [rep_strs rl] at q
    exact ⟨a, p, ys, rfl, rfl, .inl (.of q), hz, f _ H2 m (.str (Txt.join a ys)) (s1.trans s2) r2 rfl k⟩⟩
/-- a text's head x[:k] -/
theorem se_head {hi : Expr} (h : SE X W ρ e fun n x => ∃ z, x = .str z ∧ z.length ≤ sizeLine ∧ SE X W (ρ.to n) hi fun m y => ∃ i, y = .int i ∧ K m (.str (cutS z none (some i)))) : SE X W ρ (.Subscript e (.Slice none (some hi) none p2) pos) K :=
  SE.of (pe_slice sl_str (pe_X (W := W) (ρ := ρ)) po_none (po_some (pe_X (W := W) (ρ := ρ)))) fun σ H Q r f => ⟨ρ.n, r, _, h, fun v H1 n d s1 r1 q1 ⟨z, ez, hz, h1⟩ => by
    subst ez
    have ev : v = .str z := q1
    subst ev
    refine ⟨n, r1, _, h1, fun v2 H2 m d2 s2 r2 q2 ⟨i, ei, k⟩ => ?_⟩
    subst ei
    exact ⟨i, q2, z, rfl, hz, f _ H2 m (.str _) (s1.trans s2) r2 rfl k⟩⟩
end
end Sk
set_option maxHeartbeats 4000000
/-! S27: the source of draws. -/
namespace Sk
open PySem PySem.Spec PyProof.Rows L2
def srcK (p : Addr × Addr × Addr × List (Addr × Str)) (r t : Int) : HO := .dK [(.inr "large", .ref p.2.1), (.inr "cells", .ref p.2.2.1), (.inr "rest", .int r), (.inr "turn", .int t)]
structure SrcAt (H : Hp) (p : Addr × Addr × Addr × List (Addr × Str)) (n : Nat) (L C : List Int) (r t : Int) : Prop where
  a : H p.1 = some (srcK p r t)
  b : H p.2.1 = some (.lst (L.map V.int))
  c : H p.2.2.1 = some (.lst (C.map V.int))
  ne : p.2.1 ≠ p.2.2.1
  l0 : ∀ x ∈ L, 0 ≤ x
  c0 : ∀ x ∈ C, 0 ≤ x
  r0 : 0 ≤ r
  t0 : 0 ≤ t
  tn : t + n < 1000000
  ll : L.length ≤ 63
  lc : C.length ≤ 63
  tb : LamX.Tabs p.2.2.2 H
theorem SrcOk.at {K : PySem.W.Frag} {H : Hp} {p : Addr × Addr × Addr × List (Addr × Str)} {n : Nat} (h : SrcOk K H p n) : ∃ L C r t, SrcAt H p n L C r t := by
  obtain ⟨⟨L, C, r, t, h1, h2, h3, h4, h5, h6, h7, h8, h9, h10, h11⟩, tb⟩ := h
  exact ⟨L, C, r, t, h1, h2, h3, h4, h5, h6, h7, h8, h9, h10, h11, tb⟩
theorem SrcAt.ok {K : PySem.W.Frag} {H : Hp} {p : Addr × Addr × Addr × List (Addr × Str)} {n : Nat} {L C : List Int} {r t : Int} (h : SrcAt H p n L C r t) : SrcOk K H p n := ⟨⟨L, C, r, t, h.a, h.b, h.c, h.ne, h.l0, h.c0, h.r0, h.t0, h.tn, h.ll, h.lc⟩, h.tb⟩
section
variable {H : Hp} {p : Addr × Addr × Addr × List (Addr × Str)} {n : Nat} {L C : List Int} {r t : Int}
theorem SrcAt.n1 (h : SrcAt H p n L C r t) : p.2.1 ≠ p.1 := fun z => by
  have := h.b
  rw [z, h.a] at this
  cases this
theorem SrcAt.n2 (h : SrcAt H p n L C r t) : p.2.2.1 ≠ p.1 := fun z => by
  have := h.c
  rw [z, h.a] at this
  cases this
theorem SrcAt.set (h : SrcAt H p n L C r t) {n' : Nat} {r' t' : Int} (h1 : 0 ≤ r') (h2 : 0 ≤ t') (h3 : t' + n' < 1000000) : SrcAt (upd H p.1 (srcK p r' t')) p n' L C r' t' :=
  ⟨upd_same, by rw [upd_ne h.n1]; exact h.b, by rw [upd_ne h.n2]; exact h.c, h.ne, h.l0, h.c0, h1, h2, h3, h.ll, h.lc, tabs_upd h.tb h.a (fun _ z => by unfold srcK at z; cases z) fun _ => dK_code⟩
theorem SrcAt.cut (h : SrcAt H p n L C r t) {L' : List Int} (h1 : ∀ x ∈ L', 0 ≤ x) (h2 : L'.length ≤ 63) : SrcAt (upd H p.2.1 (.lst (L'.map V.int))) p n L' C r t :=
  ⟨by rw [upd_ne h.n1.symm]; exact h.a, upd_same, by rw [upd_ne h.ne.symm]; exact h.c, h.ne, h1, h.c0, h.r0, h.t0, h.tn, h2, h.lc, tabs_upd h.tb h.b (fun _ z => by cases z) fun _ => lst_code⟩
theorem sameG_1 {o : HO} : SameG (some p) H (upd H p.1 o) := fun a u e na => by rw [upd_ne (na p rfl).1]; exact e
theorem sameG_2 {o : HO} : SameG (some p) H (upd H p.2.1 o) := fun a u e na => by rw [upd_ne (na p rfl).2.1]; exact e
theorem src_rest : valV [((.inr "large" : Key), V.ref p.2.1), (.inr "cells", .ref p.2.2.1), (.inr "rest", .int r), (.inr "turn", .int t)] (.inr "rest") = some (.int r) := rfl
theorem src_turn : valV [((.inr "large" : Key), V.ref p.2.1), (.inr "cells", .ref p.2.2.1), (.inr "rest", .int r), (.inr "turn", .int t)] (.inr "turn") = some (.int t) := rfl
theorem src_large : valV [((.inr "large" : Key), V.ref p.2.1), (.inr "cells", .ref p.2.2.1), (.inr "rest", .int r), (.inr "turn", .int t)] (.inr "large") = some (.ref p.2.1) := rfl
theorem src_cells : valV [((.inr "large" : Key), V.ref p.2.1), (.inr "cells", .ref p.2.2.1), (.inr "rest", .int r), (.inr "turn", .int t)] (.inr "cells") = some (.ref p.2.2.1) := rfl
theorem src_putR {r' : Int} : putK [((.inr "large" : Key), V.ref p.2.1), (.inr "cells", .ref p.2.2.1), (.inr "rest", .int r), (.inr "turn", .int t)] (.inr "rest") (.int r') = [((.inr "large" : Key), V.ref p.2.1), (.inr "cells", .ref p.2.2.1), (.inr "rest", .int r'), (.inr "turn", .int t)] := rfl
theorem src_putT {t' : Int} : putK [((.inr "large" : Key), V.ref p.2.1), (.inr "cells", .ref p.2.2.1), (.inr "rest", .int r), (.inr "turn", .int t)] (.inr "turn") (.int t') = [((.inr "large" : Key), V.ref p.2.1), (.inr "cells", .ref p.2.2.1), (.inr "rest", .int r), (.inr "turn", .int t')] := rfl
end
section
variable {X : Cx} {W : Fm} {ρ : En} {K : Nat → D → Prop} {R : RD} {e : Expr} {pos p1 p2 p3 p4 p5 p6 p7 p8 p9 p10 p11 p12 p13 p14 p15 p16 p17 p18 p19 p20 p21 : Pos} {k1 k2 k3 k4 k5 k6 : Nat} {st : Str}
theorem RE.source {Kf : PySem.W.Frag} {w : World} {H : Hp} {σ : L2.St} (r : RE Kf w W H σ ρ) (hl : ρ.s[0]? = some (.va .src)) : ∃ p, W.g = some p ∧ σ[0]? = some (some (.ref p.1)) ∧ ∃ L C rr t, SrcAt H p ρ.n L C rr t := by
  obtain ⟨v, e, p, hg, ev⟩ := r.slot 0 _ hl
  subst ev
  exact ⟨p, hg, e, (r.src p hg).2.2.2.at⟩
/-- state['rest'], state['turn'] -/
theorem se_stRest (hu : X.A.units + 1 < cLine) (k : ∀ r, 0 ≤ r → K ρ.n (.int r)) (hl : ρ.s[0]? = some (.va .src) := by rfl) (hN : X.N[0]? = some st := by rfl) (hv : Vis X.env.scope st := by first | exact Or.inl rfl | exact Or.inr (Or.inl rfl) | exact Or.inr (Or.inr rfl)) (hdb : (st == ("__debug__" : Str)) = false := by decide) (hcd : (st == ("__classdict__" : Str)) = false := by decide) :
    SE X W ρ (.Subscript (.Name st p1) (.Constant (.str "rest") k1 p2) pos) K :=
  SE.of (pe_dget hu (pe_var hN hv hdb hcd) pe_str (fun _ _ => rfl)) fun σ H Q r f => by
    obtain ⟨p, hg, e0, L, C, rr, t, sa⟩ := r.source hl
    exact ⟨_, e0, p.1, .int rr, rfl, .inl ⟨_, .inr "rest", .of sa.a, rfl, src_rest.symm⟩, f.now r (d := .int rr) rfl (k rr sa.r0)⟩
theorem se_stTurn (hu : X.A.units + 1 < cLine) (k : ∀ t : Int, 0 ≤ t → t + ρ.n < 1000000 → K ρ.n (.int t)) (hl : ρ.s[0]? = some (.va .src) := by rfl) (hN : X.N[0]? = some st := by rfl) (hv : Vis X.env.scope st := by first | exact Or.inl rfl | exact Or.inr (Or.inl rfl) | exact Or.inr (Or.inr rfl)) (hdb : (st == ("__debug__" : Str)) = false := by decide) (hcd : (st == ("__classdict__" : Str)) = false := by decide) :
    SE X W ρ (.Subscript (.Name st p1) (.Constant (.str "turn") k1 p2) pos) K :=
  SE.of (pe_dget hu (pe_var hN hv hdb hcd) pe_str (fun _ _ => rfl)) fun σ H Q r f => by
    obtain ⟨p, hg, e0, L, C, rr, t, sa⟩ := r.source hl
    exact ⟨_, e0, p.1, .int t, rfl, .inl ⟨_, .inr "turn", .of sa.a, rfl, src_turn.symm⟩, f.now r (d := .int t) rfl (k t sa.t0 sa.tn)⟩
/-- state['rest'] = e, state['turn'] = e -/
theorem sn_stRest (hu : X.A.units + 1 < cLine) (h : SE X W ρ e fun n d => ∃ r n', d = .int r ∧ 0 ≤ r ∧ n' ≤ n ∧ R.nx (ρ.to n')) (hl : ρ.s[0]? = some (.va .src) := by rfl) (hN : X.N[0]? = some st := by rfl) (hv : Vis X.env.scope st := by first | exact Or.inl rfl | exact Or.inr (Or.inl rfl) | exact Or.inr (Or.inr rfl)) (hdb : (st == ("__debug__" : Str)) = false := by decide) (hcd : (st == ("__classdict__" : Str)) = false := by decide)
    (hs : swapsWith e (some (.Subscript (.Name st p1) (.Constant (.str "rest") k1 p2) p3)) pos.line X.env = pure false := by rfl) : SN X W ρ (.Assign [.Subscript (.Name st p1) (.Constant (.str "rest") k1 p2) p3] e pos) R :=
  SN.of (ps_dput hu (pe_var hN hv hdb hcd) pe_str (pe_X (W := W) (ρ := ρ)) hs) fun σ H D r f => ⟨ρ.n, r, _, h, fun v H1 n d s1 r1 q1 ⟨rr', n', ed, h0, hn', k⟩ => by
    subst ed
    have ev : v = .int rr' := q1
    subst ev
    obtain ⟨p, hg, e0, L, C, rr, t, sa⟩ := RE.source (ρ := ρ.to n) r1 hl
    refine ⟨_, e0, p.1, _, rfl, .inl ⟨_, .inr "rest", sa.a, rfl, (show 4 < sizeLine by decide), rfl⟩, ?_⟩
    have sa' := sa.set (r' := rr') (t' := t) (n' := n') h0 sa.t0 (by have h9 : t + n < 1000000 := sa.tn; omega)
    refine f.nx σ _ _ (RE.step (ρ := ρ.to n) (n := n') r1 (by rw [hg]; exact sameG_1) fun q e => ?_) k
    rw [hg] at e
    cases e
    exact sa'.ok⟩
theorem sn_stTurn (hu : X.A.units + 1 < cLine) (h : SE X W ρ e fun n d => ∃ (t : Int) (n' : Nat), d = .int t ∧ 0 ≤ t ∧ t + n' < 1000000 ∧ R.nx (ρ.to n')) (hl : ρ.s[0]? = some (.va .src) := by rfl) (hN : X.N[0]? = some st := by rfl) (hv : Vis X.env.scope st := by first | exact Or.inl rfl | exact Or.inr (Or.inl rfl) | exact Or.inr (Or.inr rfl)) (hdb : (st == ("__debug__" : Str)) = false := by decide) (hcd : (st == ("__classdict__" : Str)) = false := by decide)
    (hs : swapsWith e (some (.Subscript (.Name st p1) (.Constant (.str "turn") k1 p2) p3)) pos.line X.env = pure false := by rfl) : SN X W ρ (.Assign [.Subscript (.Name st p1) (.Constant (.str "turn") k1 p2) p3] e pos) R :=
  SN.of (ps_dput hu (pe_var hN hv hdb hcd) pe_str (pe_X (W := W) (ρ := ρ)) hs) fun σ H D r f => ⟨ρ.n, r, _, h, fun v H1 n d s1 r1 q1 ⟨t', n', ed, h0, h1, k⟩ => by
    subst ed
    have ev : v = .int t' := q1
    subst ev
    obtain ⟨p, hg, e0, L, C, rr, t, sa⟩ := RE.source (ρ := ρ.to n) r1 hl
    refine ⟨_, e0, p.1, _, rfl, .inl ⟨_, .inr "turn", sa.a, rfl, (show 4 < sizeLine by decide), rfl⟩, ?_⟩
    have sa' := sa.set (r' := rr) (t' := t') (n' := n') sa.r0 h0 h1
    refine f.nx σ _ _ (RE.step (ρ := ρ.to n) (n := n') r1 (by rw [hg]; exact sameG_1) fun q e => ?_) k
    rw [hg] at e
    cases e
    exact sa'.ok⟩
/-- while state['rest'] == 0 and state['large'] != []: state['rest'] = state['large'].pop(0) -/
theorem ints_dp {Kf : PySem.W.Frag} {H : Hp} : ∀ (L : List Int), DpAll Kf H (L.map V.int) (L.map PyData.int)
  | [] => .nil
  | i :: L => .cons (.int i) (ints_dp L)
theorem ints_shaped : ∀ (L : List Int), PyData.canLayAll0 (L.map PyData.int) = true ∧ PyData.depthAll (L.map PyData.int) = 0
  | [] => ⟨rfl, rfl⟩
  | i :: L => by
    obtain ⟨h1, h2⟩ := ints_shaped L
    refine ⟨?_, ?_⟩
    · show (true && PyData.canLayAll0 (L.map PyData.int)) = true
      rw [h1]
      rfl
    · show max 0 (PyData.depthAll (L.map PyData.int)) = 0
      rw [h2]
      rfl
theorem ints_ok (L : List Int) : SeqAt.shaped (.list (L.map PyData.int)) = true := by
  show (PyData.canLayAll0 (L.map PyData.int) && decide (PyData.depthAll (L.map PyData.int) + 1 ≤ 64)) = true
  rw [(ints_shaped L).1, (ints_shaped L).2]
  rfl
theorem sn_stLoop (hu : X.A.units + 64 < cLine) (hp : PassesOwn (model X.prog X.w) X.A X.env X.xe) (h : R.nx ρ) (hl : ρ.s[0]? = some (.va .src) := by rfl) (hN : X.N[0]? = some st := by rfl) (hv : Vis X.env.scope st := by first | exact Or.inl rfl | exact Or.inr (Or.inl rfl) | exact Or.inr (Or.inr rfl)) (hdb : (st == ("__debug__" : Str)) = false := by decide) (hcd : (st == ("__classdict__" : Str)) = false := by decide)
    (hm1 : behindInMarks .Eq (.Constant (.int 0) k2 p4) = false := by rfl) (hm2 : behindInMarks .NotEq (.List [] p9) = false := by rfl)
    (hbase : attributeBase (.Subscript (.Name st p15) (.Constant (.str "large") k5 p16) p17) "pop" X.env (eval (.Subscript (.Name st p15) (.Constant (.str "large") k5 p16) p17) X.env) = eval (.Subscript (.Name st p15) (.Constant (.str "large") k5 p16) p17) X.env := by rfl)
    (hfew : ((backTo p20 (starEach [.Constant (.int 0) k6 p19] X.env)).all (fun x => !x.1) && (backToKw p20 (keywordEach [] X.env)).all (fun x => x.1.isSome)
      && decide ([Expr.Constant (.int 0) k6 p19].length + ([] : List Keyword).length + (if ([] : List Keyword).isEmpty then 0 else 1) < 30)) = true := by rfl)
    (hline : (p18.endLine == p20.line) = true := by rfl) (hs1 : starEach [.Constant (.int 0) k6 p19] X.env = (false, eval (.Constant (.int 0) k6 p19) X.env) :: starEach [] X.env := by rfl)
    (hs : swapsWith (.Call (.Attribute (.Subscript (.Name st p15) (.Constant (.str "large") k5 p16) p17) "pop" p18) [.Constant (.int 0) k6 p19] [] p20) (some (.Subscript (.Name st p12) (.Constant (.str "rest") k4 p13) p14)) p21.line X.env = pure false := by rfl) :
    SN X W ρ (.While (.BoolOp .And [.Compare (.Subscript (.Name st p1) (.Constant (.str "rest") k1 p2) p3) [.Eq] [.Constant (.int 0) k2 p4] p5, .Compare (.Subscript (.Name st p6) (.Constant (.str "large") k3 p7) p8) [.NotEq] [.List [] p9] p10] p11)
      [.Assign [.Subscript (.Name st p12) (.Constant (.str "rest") k4 p13) p14] (.Call (.Attribute (.Subscript (.Name st p15) (.Constant (.str "large") k5 p16) p17) "pop" p18) [.Constant (.int 0) k6 p19] [] p20) p21] [] pos) R := by
  have hu1 : X.A.units + 1 < cLine := by omega
  refine SN.of (ps_while hp (PW.pt (pw_and (pt_cmpR (op_eqD hu) (pe_dget hu1 (pe_var hN hv hdb hcd) pe_str (fun _ _ => rfl)) pe_int hm1) (pw_and1 (pt_cmpR (op_neD hu) (pe_dget hu1 (pe_var hN hv hdb hcd) pe_str (fun _ _ => rfl)) (pe_lst pa_nil) hm2))))
    (pss_one (ps_dput hu1 (pe_var hN hv hdb hcd) pe_str (pe_bm PySem.F.plainAttrs_list PySem.F.slot_list_pop PySem.F.type_list_pop mt_popAt (pe_dget hu1 (pe_var hN hv hdb hcd) pe_str (fun _ _ => rfl)) (pa_cons pe_int pa_nil hs1) hbase hfew hline hs1 rfl) hs))) fun σ H D r f => ?_
  obtain ⟨p, hg, e0, _⟩ := r.source hl
  refine ⟨fun m σ' H' => σ' = σ ∧ RE X.K X.w W H' σ ρ ∧ ∃ L C rr t, m = L.length ∧ SrcAt H' p ρ.n L C rr t, ?_, ?_⟩
  · obtain ⟨L, C, rr, t, sa⟩ := (r.src p hg).2.2.2.at
    exact ⟨L.length, rfl, r, L, C, rr, t, rfl, sa⟩
  · rintro m σ' H' ⟨rfl, r', L, C, rr, t, rfl, sa⟩
    refine ⟨_, e0, p.1, .int rr, rfl, .inl ⟨_, .inr "rest", .of sa.a, rfl, src_rest.symm⟩, .int rr, .int 0, .int rr, .int 0, rfl, rfl, _, rfl, ?_⟩
    cases hr0 : PyData.eqv (.int rr) (.int 0) with
    | false => exact f.nx σ' H' ρ r' h
    | true =>
      refine ⟨_, e0, p.1, .ref p.2.1, rfl, .inl ⟨_, .inr "large", .of sa.a, rfl, src_large.symm⟩, by decide, fun q hq => ?_⟩
      have sm : Same H' (upd H' q (.lst [])) := same_new hq
      have sa1 : SrcAt (upd H' q (.lst [])) p ρ.n L C rr t := ⟨sm _ _ sa.a, sm _ _ sa.b, sm _ _ sa.c, sa.ne, sa.l0, sa.c0, sa.r0, sa.t0, sa.tn, sa.ll, sa.lc, sa.tb.ext sm⟩
      have r1 := r'.stay sm
      refine ⟨.list (L.map PyData.int), .list [], .lst (.of sa1.b) (ints_dp L), .lst (.of upd_same) .nil, ints_ok L, rfl, _, rfl, ?_⟩
      cases L with
      | nil => exact f.nx σ' _ ρ r1 h
      | cons x L =>
        refine ⟨fun σ2 H2 => σ2 = σ' ∧ RE X.K X.w W H2 σ' ρ ∧ ∃ rr t, SrcAt H2 p ρ.n L C rr t, fun σ2 H2 ⟨e2, r2, rr, t, s2⟩ => ⟨L.length, Nat.lt_succ_self _, e2, r2, L, C, rr, t, rfl, s2⟩, ?_⟩
        refine ⟨_, e0, p.1, .ref p.2.1, rfl, .inl ⟨_, .inr "large", .of sa1.a, rfl, src_large.symm⟩, .inl ⟨rfl, _, .of sa1.b⟩, p.2.1, _, 0, 0, .int x, rfl, rfl, sa1.b, by decide, by decide, by simp [seqIndex?], rfl, ?_⟩
        have sa2 : SrcAt (upd (upd H' q (.lst [])) p.2.1 (.lst (L.map V.int))) p ρ.n L C rr t := sa1.cut (fun y hy => sa.l0 y (List.mem_cons_of_mem _ hy)) (by have := sa.ll; rw [List.length_cons] at this; omega)
        refine ⟨_, e0, p.1, _, rfl, .inl ⟨_, .inr "rest", sa2.a, rfl, (show 4 < sizeLine by decide), rfl⟩, rfl, ?_, x, t, ?_⟩
        · refine r1.step (n := ρ.n) ?_ fun q' e => ?_
          · rw [hg]
            exact SameG.trans sameG_2 sameG_1
          · rw [hg] at e
            cases e
            exact (sa2.set (r' := x) (t' := t) (n' := ρ.n) (sa.l0 x List.mem_cons_self) sa.t0 sa.tn).ok
        · exact sa2.set (sa.l0 x List.mem_cons_self) sa.t0 sa.tn
/-- state['cells'][int(turn) % len(state['cells'])] if state['cells'] != [] else 0 -/
theorem se_stCell (j : Nat) {tn : Str} {t : Int} (hu : X.A.units + 64 < cLine) (mi : X.mg "int" = none) (ml : X.mg "len" = none) (ht : 0 ≤ t) (k : ∀ c, 0 ≤ c → K ρ.n (.int c)) (hj : ρ.s[j]? = some (.va (.int t)) := by rfl) (hl : ρ.s[0]? = some (.va .src) := by rfl) (hN : X.N[0]? = some st := by rfl) (hNj : X.N[j]? = some tn := by rfl)
    (hv : Vis X.env.scope st := by first | exact Or.inl rfl | exact Or.inr (Or.inl rfl) | exact Or.inr (Or.inr rfl)) (hvj : Vis X.env.scope tn := by first | exact Or.inl rfl | exact Or.inr (Or.inl rfl) | exact Or.inr (Or.inr rfl)) (hdb : (st == ("__debug__" : Str)) = false := by decide) (hcd : (st == ("__classdict__" : Str)) = false := by decide) (hdb2 : (tn == ("__debug__" : Str)) = false := by decide) (hcd2 : (tn == ("__classdict__" : Str)) = false := by decide)
    (gi : Gl X "int" := by rfl) (gl : Gl X "len" := by rfl) (hm : behindInMarks .NotEq (.List [] p9) = false := by rfl)
    (hs1 : starEach [.Name tn p10] X.env = (false, eval (.Name tn p10) X.env) :: starEach [] X.env := by rfl) (hs2 : starEach [.Subscript (.Name st p11) (.Constant (.str "cells") k3 p12) p13] X.env = (false, eval (.Subscript (.Name st p11) (.Constant (.str "cells") k3 p12) p13) X.env) :: starEach [] X.env := by rfl) :
    SE X W ρ (.IfExp (.Compare (.Subscript (.Name st p1) (.Constant (.str "cells") k1 p2) p3) [.NotEq] [.List [] p9] p4)
      (.Subscript (.Subscript (.Name st p5) (.Constant (.str "cells") k2 p6) p7) (.BinOp (.Call (.Name "int" p8) [.Name tn p10] [] p14) .Mod (.Call (.Name "len" p15) [.Subscript (.Name st p11) (.Constant (.str "cells") k3 p12) p13] [] p16) p17) p18)
      (.Constant (.int 0) k4 p19) pos) K := by
  have hu1 : X.A.units + 1 < cLine := by omega
  refine SE.of (pe_ifExp (pt_cmpR (op_neD hu) (pe_dget hu1 (pe_var hN hv hdb hcd) pe_str (fun _ _ => rfl)) (pe_lst pa_nil) hm)
    (pe_ix ix_list (pe_dget hu1 (pe_var hN hv hdb hcd) pe_str (fun _ _ => rfl)) (pe_op op_mod (pe_callTy call_int1 gi mi PyProof.Rows.boot_int (pa_cons (pe_var hNj hvj hdb2 hcd2) pa_nil hs1) (by decide) (by decide) (he := hs1)) (pe_callB call_len gl ml boot_len (pa_cons (pe_dget hu1 (pe_var hN hv hdb hcd) pe_str (fun _ _ => rfl)) pa_nil hs2) (by decide) (by decide) (he := hs2))) (fun _ _ => rfl)) pe_int) fun σ H Q r f => ?_
  obtain ⟨p, hg, e0, L, C, rr, t', sa⟩ := r.source hl
  obtain ⟨v, ej, ev⟩ := r.slot j _ hj
  have ev' : v = .int t := ev
  subst ev'
  refine ⟨_, e0, p.1, .ref p.2.2.1, rfl, .inl ⟨_, .inr "cells", .of sa.a, rfl, src_cells.symm⟩, by decide, fun q hq => ?_⟩
  have sm : Same H (upd H q (.lst [])) := same_new hq
  have r1 := r.stay sm
  have c1 : (upd H q (.lst [])) p.2.2.1 = some (.lst (C.map V.int)) := sm _ _ sa.c
  have a1 : (upd H q (.lst [])) p.1 = some (srcK p rr t') := sm _ _ sa.a
  refine ⟨.list (C.map PyData.int), .list [], .lst (.of c1) (ints_dp C), .lst (.of upd_same) .nil, ints_ok C, rfl, _, rfl, ?_⟩
  cases C with
  | nil => exact f _ _ ρ.n (.int 0) (.of sm) r1 rfl (k 0 (Int.le_refl 0))
  | cons c C =>
    have hlen : (0 : Int) < (((c :: C).map V.int).length : Nat) := by simp
    have hlt : (t % ((((c :: C).map V.int).length : Nat) : Int)).toNat < (c :: C).length := by
      have h1 := Int.emod_lt_of_pos t hlen
      have h2 := Int.emod_nonneg t (Int.ne_of_gt hlen)
      rw [List.length_map] at h1 h2 ⊢
      omega
    have h0 : 0 ≤ t % ((((c :: C).map V.int).length : Nat) : Int) := Int.emod_nonneg t (Int.ne_of_gt hlen)
    refine ⟨_, e0, p.1, .ref p.2.2.1, rfl, .inl ⟨_, .inr "cells", .of a1, rfl, src_cells.symm⟩, .int t, ej, .inl ⟨t, rfl, _, e0, p.1, .ref p.2.2.1, rfl, .inl ⟨_, .inr "cells", .of a1, rfl, src_cells.symm⟩, .ref p.2.2.1, _, rfl, .inl ⟨_, .of c1, rfl⟩, t, _, rfl, rfl, hlen, p.2.2.1, _, _, .int (c :: C)[(t % ((((c :: C).map V.int).length : Nat) : Int)).toNat], rfl, rfl, .of c1, atI_of h0 ?_, ?_⟩⟩
    · rw [List.getElem?_map, List.getElem?_eq_getElem hlt]
      rfl
    · exact f _ _ ρ.n (.int _) (.of sm) r1 rfl (k _ (sa.c0 _ (List.getElem_mem hlt)))
end
end Sk
set_option maxHeartbeats 4000000
/-! S28: a dict display of four text keys. -/
namespace Sk
open PySem PySem.Spec PyProof.Rows L2
theorem upd_upd {H : Hp} {p : Addr} {a b : HO} : upd (upd H p a) p b = upd H p b := by
  funext x
  by_cases h : x = p
  · subst h
    rw [upd_same, upd_same]
  · rw [upd_ne h, upd_ne h, upd_ne h]
/-- the entries of a dict with text keys -/
theorem dk_ents {X : Cx} {pins : List (Addr × Obj)} {σ : L2.St} {H : Hp} {s : Shared} {p : Addr} {xs : List Str} {vs : List V} (I : Inv X pins σ H s) (h : H p = some (.dK ((xs.map Sum.inr).zip vs))) (hl : xs.length = vs.length) :
    ∃ o, Inv X pins σ (upd H p (dO p (ents X.w (xs.map D.str) (o, xs.map V.str) vs))) s ∧ xs.Nodup := by
  obtain ⟨hz, hs, us, kv, o, es, ep, ho, hx, hd, hk, hp, nd⟩ := (show ObjOk X.prog X.w H s.heap p (.dK ((xs.map Sum.inr).zip vs)) from I.hok p _ h)
  have lz : ((xs.map (Sum.inr : Str → Key)).zip vs).length = xs.length := by rw [List.length_zip, List.length_map]; omega
  have lu : us.length = xs.length := by rw [← lz]; exact (Paired.length kv).symm
  have le : es.toList.length = xs.length := by rw [← lu]; exact hp.length
  have ndx : xs.Nodup := by
    have e : us.map (·.1) = xs.map Sum.inr := by
      apply List.ext_getElem?
      intro i
      rw [List.getElem?_map, List.getElem?_map]
      cases e1 : us[i]? with
      | none =>
        have : us.length ≤ i := List.getElem?_eq_none_iff.mp e1
        rw [List.getElem?_eq_none (by omega)]
        rfl
      | some u =>
        have il : i < xs.length := by rw [← lu]; exact (List.getElem?_eq_some_iff.mp e1).1
        obtain ⟨b, hb, r⟩ := Sk.paired_get kv (show ((xs.map (Sum.inr : Str → Key)).zip vs)[i]? = some (Sum.inr xs[i], vs[i]'(by omega)) from List.getElem?_zip_eq_some.mpr ⟨by rw [List.getElem?_map, List.getElem?_eq_getElem il]; rfl, List.getElem?_eq_getElem (by omega)⟩)
        rw [e1] at hb
        cases hb
        rw [List.getElem?_eq_getElem il]
        exact congrArg some r.1.symm
    rw [e] at nd
    exact List.Pairwise.of_map (Sum.inr : Str → Key) (fun a b h z => h (by rw [z])) nd
  refine ⟨o, I.write (x := p) (e := p) (t' := s.toks) (h' := s.heap) (by rw [h]; trivial) (.inl rfl) (fun b v _ q => q) ⟨o, ho⟩ (dO_stay (xs := entL X.w (xs.map D.str) (xs.map V.str) vs) hs ?_ ho hx hd (ents_paired (by simp) (by simpa using hl) (by simpa using le) fun i e he => ?_)), ndx⟩
  · rw [ents_len (by simp) (by simpa using hl), List.length_map]
    omega
  · have il : i < xs.length := by rw [← le]; exact (List.getElem?_eq_some_iff.mp he).1
    have ev : vs[i]? = some (vs[i]'(by omega)) := List.getElem?_eq_getElem (by omega)
    obtain ⟨b, hb, r1, r2⟩ := Sk.paired_get kv (show ((xs.map (Sum.inr : Str → Key)).zip vs)[i]? = some (Sum.inr xs[i], vs[i]'(by omega)) from List.getElem?_zip_eq_some.mpr ⟨by rw [List.getElem?_map, List.getElem?_eq_getElem il]; rfl, ev⟩)
    obtain ⟨g1, g2⟩ := hp.get? (i := i) (e := e) (k := b.1) (v := b.2) he hb
    obtain ⟨k', hk', hh⟩ := hk e (Array.mem_toList_iff.mp (List.mem_of_getElem? he))
    have ek : k' = b.1 := (mixKind X.prog X.w).inj _ _ _ hk' g1
    refine ⟨.str xs[i], .str xs[i], vs[i]'(by omega), by rw [List.getElem?_map, List.getElem?_eq_getElem il]; rfl, by rw [List.getElem?_map, List.getElem?_eq_getElem il]; rfl, ev, ?_, ?_, ?_⟩
    · rw [hh, ek, ← r1]
      rfl
    · have := relV_key (show keyIs b.1 e.key = true from g1)
      rw [← r1] at this
      exact this
    · rw [g2]
      exact r2
theorem dkeys_str {xs : List Str} (h : xs.Nodup) : DKeys (xs.map D.str) := by
  refine ⟨fun k hk => ?_, ?_, .inl fun k hk => ?_⟩
  · obtain ⟨x, _, rfl⟩ := List.mem_map.mp hk
    exact ⟨rfl, by simp [D.nk, NestedKey.depth]⟩
  · rw [List.map_map]
    exact List.Pairwise.map _ (fun a b hab z => hab (by
      have z' : NestedKey.text a = NestedKey.text b := z
      cases z'
      rfl)) h
  · obtain ⟨x, _, rfl⟩ := List.mem_map.mp hk
    rfl
section
variable {X : Cx} {W : Fm} {ρ : En} {K : Nat → D → Prop} {a1 a2 a3 a4 : Expr} {pos p1 p2 p3 p4 : Pos} {k1 k2 k3 k4 : Nat}
theorem sf_disp4 {x1 x2 x3 x4 : Str} (h : ∀ p, SE X (W.add p) ρ a1 fun n1 d1 => SE X (W.add p) (ρ.to n1) a2 fun n2 d2 => SE X (W.add p) (ρ.to n2) a3 fun n3 d3 => SE X (W.add p) (ρ.to n3) a4 fun n4 d4 => K n4 (.dct [.str x1, .str x2, .str x3, .str x4] [d1, d2, d3, d4]))
    (hm : ∀ v1 v2 v3 v4 : V, mergeK [] [((.inr x1 : Key), v1), (.inr x2, v2), (.inr x3, v3), (.inr x4, v4)] = [((.inr x1 : Key), v1), (.inr x2, v2), (.inr x3, v3), (.inr x4, v4)] := by intros; rfl) :
    SF X W ρ (.Dict [some (.Constant (.str x1) k1 p1), some (.Constant (.str x2) k2 p2), some (.Constant (.str x3) k3 p3), some (.Constant (.str x4) k4 p4)] [a1, a2, a3, a4] pos) K := fun pins s σ H I r => by
  have pb : ∀ a, PE X a (fun σ H Q => ∃ p n, RE X.K X.w (W.add p) H σ (ρ.to n) ∧ ∃ K, SE X (W.add p) (ρ.to n) a K ∧ Fol X (W.add p) ρ σ H K Q) := fun a => by
    refine ⟨fun pins s σ H Q I h => ?_⟩
    obtain ⟨p, n, r, K, hS, hQ⟩ := h
    exact thn (hS pins s σ H I r) fun u s' ⟨v, H', m, d, I', rv, sm, r', p, k⟩ => ⟨v, H', I', rv, hQ v H' m d sm r' p k⟩
  refine thn ((pe_disp (pps_cons pe_str (pb a1) (pps_cons pe_str (pb a2) (pps_cons pe_str (pb a3) (pps_cons pe_str (pb a4) pps_nil)))) rfl rfl (by simp) (by simp)).run pins s σ H
    (fun v H' => ∃ p n ds vs H4, v = .ref p ∧ H p = none ∧ H' = upd H4 p (.dK (([x1, x2, x3, x4].map Sum.inr).zip vs)) ∧ vs.length = 4 ∧ ds.length = 4 ∧ SameG W.g (upd H p (.dK [])) H4 ∧ RE X.K X.w (W.add p) H4 σ (ρ.to n) ∧ RepL X.K X.w W.g H4 (Fb (p :: W.O) σ ρ.s) ds vs ∧ K n (.dct ([x1, x2, x3, x4].map D.str) ds)) I
    fun p hp => ⟨p, ρ.n, r.addNew hp, _, h p, fun v1 H1 n1 d1 s1 r1 q1 h1 => ⟨p, n1, r1, _, h1, fun v2 H2 n2 d2 s2 r2 q2 h2 => ⟨p, n2, r2, _, h2, fun v3 H3 n3 d3 s3 r3 q3 h3 => ⟨p, n3, r3, _, h3, fun v4 H4 n4 d4 s4 r4 q4 h4 => ?_⟩⟩⟩⟩) fun u s' ⟨v, H', I', rv, p, n, ds, vs, H4, ev, hp, eH, lv, ld, sm, r4, rl, k⟩ => ?_
  · have np : NotG W.g p := r.notG (r.fresh0 hp).2
    have s14 : SameG W.g H1 H4 := (s2.trans s3).trans s4
    refine ⟨((s1.trans s14) p _ upd_same np), [(.inr x1, v1), (.inr x2, v2), (.inr x3, v3), (.inr x4, v4)], rfl, by simp, p, n4, [d1, d2, d3, d4], [v1, v2, v3, v4], H4, rfl, hp, ?_, rfl, rfl, s1.trans s14, r4, ⟨v1, _, rfl, ?_, v2, _, rfl, ?_, v3, _, rfl, ?_, v4, _, rfl, q4, rfl⟩, h4⟩
    · rw [hm]
      rfl
    · exact r1.rep' (W := W.add p) s14 q1
    · exact r2.rep' (W := W.add p) (s3.trans s4) q2
    · exact r3.rep' (W := W.add p) s4 q3
  · subst ev eH
    have f0 := r.fresh0 hp
    have np : NotG W.g p := r.notG f0.2
    have e4 : H4 p = some (.dK []) := sm p _ upd_same np
    obtain ⟨o, I2, nd⟩ := dk_ents (p := p) (xs := [x1, x2, x3, x4]) (vs := vs) I' upd_same (by rw [lv]; rfl)
    rw [upd_upd] at I2
    have sH : SameG W.g H (upd H4 p (dO p (ents X.w ([x1, x2, x3, x4].map D.str) (o, [x1, x2, x3, x4].map V.str) vs))) := fun a u e na => by
      have ne : a ≠ p := fun z => by rw [z, hp] at e; cases e
      rw [upd_ne ne]
      exact sm a u (by rw [upd_ne ne]; exact e) na
    have src : ∀ q, W.g = some q → SrcOk X.K (upd H4 p (dO p (ents X.w ([x1, x2, x3, x4].map D.str) (o, [x1, x2, x3, x4].map V.str) vs))) q n := fun q e => by
      obtain ⟨h1, h2, h3, _⟩ := r.src q e
      obtain ⟨⟨L, C, r', t, g1, g2, g3, g4⟩, tb⟩ := (r4.src q e).2.2.2
      have m1 : q.1 ≠ p := fun z => f0.2 (z ▸ h1)
      have m2 : q.2.1 ≠ p := fun z => f0.2 (z ▸ h2)
      have m3 : q.2.2.1 ≠ p := fun z => f0.2 (z ▸ h3.1)
      exact ⟨⟨L, C, r', t, by rw [upd_ne m1]; exact g1, by rw [upd_ne m2]; exact g2, by rw [upd_ne m3]; exact g3, g4⟩, tabs_upd tb e4 (fun _ z => by cases z) fun _ => dK_code⟩
    refine ⟨p, _, n, .dct ([x1, x2, x3, x4].map D.str) ds, I2, rv, sH, hp, r.step sH src, r.addAt hp sH upd_same src, ⟨(o, [x1, x2, x3, x4].map V.str), vs, upd_same, RepL.strs _, ?_, dkeys_str nd, by rw [ld]; rfl⟩, k⟩
    refine RepL.mono (fun b ys e => ?_) (fun b ob u e => ?_) (fun b u nb e => ⟨?_, nb⟩) _ _ rl
    · rw [upd_ne (fun z => by rw [z, e4] at e; cases e)]
      exact e
    · rw [upd_ne (fun z => by rw [z, e4] at e; cases e)]
      exact e
    · rw [upd_ne (fun z => nb (.inl (by rw [z]; exact List.mem_cons_self)))]
      exact e
end
end Sk
set_option maxHeartbeats 4000000
/-! M0: what the text computes, in plain terms. -/
namespace Sk
abbrev T := Option Int
def irng (lo : Int) (k : Nat) : List Int := (List.range k).map fun i => lo + (i : Nat)
def tms (l : Int) : List T := (irng 0 (l + 1).toNat).map some ++ [none]
def okT (l : Int) : T → Bool
  | none => true
  | some i => decide (0 ≤ i) && decide (i ≤ l)
def place : T → Int
  | none => 99
  | some i => i
/-- what is heard -/
def hear (a b l : Int) : T → List T
  | none => [none]
  | some t => (((irng a (b + 1 - a).toNat).filter fun d => decide (t + d ≤ l)).map fun d => some (t + d)) ++ (if decide (l < t + b) = true then [none] else [])
abbrev TD (β : Type) := List T × List β
def srcStep (f : TD (List T)) (t h : T) : TD (List T) := (aputK f.1 h, aputV f.1 f.2 h ((aget f.1 f.2 h).getD [] ++ [t]))
def srcs (a b l : Int) : TD (List T) := (tms l).foldl (fun f t => (hear a b l t).foldl (fun f h => srcStep f t h) f) ([], [])
def isRead (a b l : Int) (sources : List T) (heard read : T) : Bool :=
  (match read, heard with
    | none, _ => true
    | some _, none => false
    | some r, some h => !decide (r < h)) && sources.all fun t => decide (read ∈ hear a b l t)
def reads (a b l : Int) (sources : List T) (heard : T) : List T := (tms l).filter fun r => isRead a b l sources heard r
def readStep (a b l : Int) (by_ : TD (List T)) (f : Option (TD T)) (h : T) : Option (TD T) := f.bind fun f =>
  match aget by_.1 by_.2 h with
  | none => some f
  | some s => match reads a b l s h with
    | [] => none
    | r :: _ => some (aputK f.1 h, aputV f.1 f.2 h r)
def reader (a b l c d : Int) : Option (TD T) := (tms l).foldl (readStep c d l (srcs a b l)) (some ([], []))
/-- seen until t -/
def seenU (m : T) (x : T) : T := match m with
  | none => x
  | some m => match x with
    | none => none
    | some t => if m < t then none else some t
end Sk
set_option maxHeartbeats 4000000
/-! F0: the text; times; what the head of the text leaves. -/
namespace Sk
open PySem PySem.Spec PyProof.Rows L2
def topS (i : Nat) : Stmt := PySem.Challenge.pw_roundpromises_k20_whole_every_table_serv.main.body.getD i (.Pass ⟨0, 0, 0, 0⟩)
def mBody : Stmt → List Stmt
  | .ClassDef _ _ _ b _ _ _ _ _ _ _ => b
  | _ => []
/-- the j-th statement of the class at i -/
def methS (i j : Nat) : Stmt := (mBody (topS i)).getD j (.Pass ⟨0, 0, 0, 0⟩)
/-- a def of the top, as it stands -/
def TopF (K : PySem.W.Frag) (mg : Str → Option Value) (x : Str) (i : Nat) : Prop := ∃ f fd, Fun K x x (topS i) f fd ∧ mg x = some (.ref f)
def bNames : List Str := ["abs", "all", "dict", "enumerate", "int", "isinstance", "len", "list", "max", "min", "range", "repr", "set", "sorted", "tuple", "zip", "bool", "str"]
abbrev tn (x : Str) (i : Nat) : Str × Nat := (x, i)
def tNames : List (Str × Nat) := [tn "is_number" 13, tn "is_list" 14, tn "is_between" 15, tn "is_length" 16, tn "is_time" 17, tn "times_of" 18, tn "is_row_at" 19, tn "all_rows" 21, tn "seen_until" 22, tn "is_name" 26, tn "is_pair_of" 30, tn "delays_from" 31, tn "need_panel" 33, tn "are_answers" 35, tn "is_steady" 36, tn "table_from" 38, tn "need_table" 39, tn "need_fitting" 40, tn "need_panels" 42, tn "heard_from" 43, tn "sources_by" 44, tn "is_read" 45, tn "readings" 46, tn "reader_of" 47, tn "translator_of" 48, tn "serves" 49, tn "translator" 50, tn "is_reader" 51, tn "is_translator_of" 52, tn "translated" 53, tn "_law_begun" 55, tn "_law_draw" 56, tn "_law_pick" 57, tn "_law_word" 58, tn "_law_words" 59, tn "_law_ticks" 60, tn "_law_spots" 61, tn "_law_place" 62, tn "_law_seen" 63, tn "_law_world" 64, tn "_law_board" 65, tn "_law_hear" 66, tn "_law_two_worlds" 67, tn "_law_looks_at" 68, tn "_law_played" 69, tn "_law_rings" 70, tn "_law_is_within" 71, tn "_law_is_one_within" 72, tn "_law_all_served" 73, tn "law" 74]
/-- what stands at the top when the law is called -/
structure Ev (K : PySem.W.Frag) (mg : Str → Option Value) (cP cT : Addr) : Prop where
  b : ∀ x, x ∈ bNames → mg x = none
  t : ∀ p, p ∈ tNames → TopF K mg p.1 p.2
  cI : ∀ p, p ∈ ([("MOST_LENGTH", 8), ("MOST_SIZE", 3), ("MOST_INPUTS", 3), ("MOST_SLIP", 2)] : List (Str × Int)) → ∃ t, mg p.1 = some (.int p.2 t)
  letters : ∃ t, mg "LETTERS" = some (.str "abcdefghijklmnopqrstuvwxyz" t)
  mP : mg "Panel" = some (.ref cP)
  mT : mg "Table" = some (.ref cT)
  oP : OwnC K cP
  oT : OwnC K cT
  nP : ∀ f, f ∈ ([Str.ofString "inputs", Str.ofString "length", Str.ofString "delays", Str.ofString "slip", Str.ofString "own_pairs"] : List Str) → NoAttr K cP f
  nT : ∀ f, f ∈ ([Str.ofString "size", Str.ofString "length", Str.ofString "own_answers"] : List Str) → NoAttr K cT f
  iP : ∃ f fd, Fun K "__init__" "Panel.__init__" (methS 32 0) f fd ∧ Mk K cP f
  iT : ∃ f fd, Fun K "__init__" "Table.__init__" (methS 37 0) f fd ∧ Mk K cT f
  aT : ∃ f fd, Fun K "answers" "Table.answers" (methS 37 1) f fd ∧ Meth K cT "answers" f
  kept : ∃ p, mg "KEPT_WORDS" = some (.ref p) ∧ ∀ H, SqT K H p ((["out", "start", "other"] : List Str).map V.str)
def c1 (q : Nat → D → (Nat → D → Prop) → Prop) : CT := fun n ds Kp => ∃ a, ds = [a] ∧ q n a Kp
def c2 (q : Nat → D → D → (Nat → D → Prop) → Prop) : CT := fun n ds Kp => ∃ a b, ds = [a, b] ∧ q n a b Kp
def c3 (q : Nat → D → D → D → (Nat → D → Prop) → Prop) : CT := fun n ds Kp => ∃ a b c, ds = [a, b, c] ∧ q n a b c Kp
def c4 (q : Nat → D → D → D → D → (Nat → D → Prop) → Prop) : CT := fun n ds Kp => ∃ a b c d, ds = [a, b, c, d] ∧ q n a b c d Kp
def c5 (q : Nat → D → D → D → D → D → (Nat → D → Prop) → Prop) : CT := fun n ds Kp => ∃ a b c d e, ds = [a, b, c, d, e] ∧ q n a b c d e Kp
def tD : T → D
  | none => .non
  | some i => .int i
theorem u9 {k : Nat} {A : Around} (r : Room k A) : A.units + 9 < cLine := by have := r.un; omega
theorem u12 {k : Nat} {A : Around} (r : Room k A) : A.units + 12 < cLine := by have := r.un; omega
theorem one_le {α : Type} {x : α} : [x].length ≤ sizeLine := by rw [List.length_singleton]; decide
theorem two_le {α : Type} {x y : α} : [x, y].length ≤ sizeLine := by rw [List.length_cons, List.length_singleton]; decide
theorem nil_le {α : Type} : ([] : List α).length ≤ sizeLine := by rw [List.length_nil]; decide
def rowD (r : List T) : D := .tup (r.map tD)
/-- a panel, a table -/
def panelD (cP : Addr) (w : Str) (l a b s : Int) : D := .obj cP ["inputs", "length", "delays", "slip", "own_pairs"] [.tup [.str w], .int l, .tup [.tup [.int a, .int b]], .int s, .non]
def tabD (cT : Addr) (l : Int) (ans : D) : D := .obj cT ["size", "length", "own_answers"] [.int 1, .int l, ans]
def noBr : List Sl → Bool
  | [] => true
  | .br _ :: _ => false
  | _ :: l => noBr l
theorem noBr_get : ∀ {l : List Sl} {j : Nat} {d : D}, noBr l = true → l[j]? ≠ some (.br d)
  | [], j, d, _, e => by cases e
  | .br _ :: _, j, d, h, e => by cases h
  | .un :: l, 0, d, h, e => by cases e
  | .va _ :: l, 0, d, h, e => by cases e
  | .ow _ :: l, 0, d, h, e => by cases e
  | .un :: l, j + 1, d, h, e => noBr_get (l := l) h e
  | .va _ :: l, j + 1, d, h, e => noBr_get (l := l) h e
  | .ow _ :: l, j + 1, d, h, e => noBr_get (l := l) h e
theorem only0 {s : List Sl} {x : Sl} {l : List Sl} (e : s = x :: l) (h : noBr l = true) : ∀ (j : Nat) (d : D), s[j]? = some (.br d) → j = 0 := fun j d z => by
  subst e
  cases j with
  | zero => rfl
  | succ j => exact absurd z (noBr_get (l := l) h)
def noOw : List Sl → Bool
  | [] => true
  | .ow _ :: _ => false
  | _ :: l => noOw l
theorem noOw_get : ∀ {l : List Sl} {j : Nat} {d : D}, noOw l = true → l[j]? ≠ some (.ow d)
  | [], j, d, _, e => by cases e
  | .ow _ :: _, j, d, h, e => by cases h
  | .un :: l, 0, d, h, e => by cases e
  | .va _ :: l, 0, d, h, e => by cases e
  | .br _ :: l, 0, d, h, e => by cases e
  | .un :: l, j + 1, d, h, e => noOw_get (l := l) h e
  | .va _ :: l, j + 1, d, h, e => noOw_get (l := l) h e
  | .br _ :: l, j + 1, d, h, e => noOw_get (l := l) h e
theorem tD_cod : Cod tD := ⟨fun a b h => by
  cases a <;> cases b <;> first | rfl | (cases h; done) | (cases h; rfl)⟩
theorem tD_inj {a b : T} (h : tD a = tD b) : a = b := by
  cases a <;> cases b <;> first | rfl | (cases h; done) | (cases h; rfl)
theorem rngD_irng (lo : Int) (k : Nat) : rngD lo k = (irng lo k).map D.int := by
  unfold rngD irng
  rw [List.map_map]
  rfl
theorem tms_D (l : Int) : rngD 0 (l + 1).toNat ++ [.non] = (tms l).map tD := by
  unfold tms
  rw [rngD_irng, List.map_append, List.map_map]
  rfl
theorem tD_key (t : T) : (tD t).isK = true ∧ (tD t).nk.depth ≤ 8 ∧ (tD t).leaf = true := by
  cases t
  · exact ⟨rfl, by decide, rfl⟩
  · exact ⟨rfl, by simp [tD, D.nk, NestedKey.depth], rfl⟩
theorem tD_kok {ks : List T} {k : T} : KOk (ks.map tD) (tD k) := by
  refine ⟨(tD_key k).1, (tD_key k).2.1, .inr fun x hx => ?_⟩
  obtain ⟨t, _, rfl⟩ := List.mem_map.mp hx
  rw [(tD_key t).2.2, (tD_key k).2.2]
theorem irng_len (lo : Int) (k : Nat) : (irng lo k).length = k := by simp [irng]
theorem tms_len (l : Int) : (tms l).length = (l + 1).toNat + 1 := by simp [tms, irng_len]
end Sk
set_option maxHeartbeats 4000000
/-! F1: rows. -/
namespace Sk
open PySem PySem.Spec PyProof.Rows L2
section
variable {P : Program} {w : World} {K : PySem.W.Frag} {mg : Str → Option Value} {base : Heap} {cP cT : Addr}
def ct_w_place : CT := c1 fun n a0 Kp => ∃ t : T, a0 = tD t ∧ Kp n (.int (place t))
theorem sc_w_place : FnScope ["_law_tick"] ["_law_tick"] (defScope (topS 62)) := ⟨rfl, rfl, rfl, by decide +kernel, rfl, by decide +kernel, by decide +kernel⟩
theorem nd_w_place : List.Nodup (["_law_tick"] : List Str) := by decide +kernel
theorem d_w_place (V : Ev K mg cP cT)  : DefOk P w K mg base "_law_place" 2 ["_law_tick"] ct_w_place := by
  obtain ⟨f, fd, F, hm⟩ := V.t (tn "_law_place" 62) (by decide +kernel)
  refine def_ok F hm (F.binds (ps := ["_law_tick"]) fun _ _ _ _ _ _ us hl => match us, hl with | [_], _ => rfl) sc_w_place (fun n ds Kp hc => ?_) (fun cdv A outer s H E W n ds Kp hr hc => ?_)
  · obtain ⟨_, rfl, _⟩ := hc
    rfl
  · obtain ⟨a0, rfl, t, rfl, hc⟩ := hc
    refine ss_cons (sn_ret (se_ifE (st_cmp (sc_is (sb_nm 0 ?_)))))
    cases t with
    | none => exact se_int hc
    | some i => exact se_va 0 hc
def ct_is_number : CT := c1 fun n a0 Kp => ∃ i, a0 = .int i ∧ Kp n (.bl true)
theorem sc_is_number : FnScope ["thing"] ["thing"] (defScope (topS 13)) := ⟨rfl, rfl, rfl, by decide +kernel, rfl, by decide +kernel, by decide +kernel⟩
theorem nd_is_number : List.Nodup (["thing"] : List Str) := by decide +kernel
theorem d_is_number (V : Ev K mg cP cT)  : DefOk P w K mg base "is_number" 2 ["thing"] ct_is_number := by
  obtain ⟨f, fd, F, hm⟩ := V.t (tn "is_number" 13) (by decide +kernel)
  refine def_ok F hm (F.binds (ps := ["thing"]) fun _ _ _ _ _ _ us hl => match us, hl with | [_], _ => rfl) sc_is_number (fun n ds Kp hc => ?_) (fun cdv A outer s H E W n ds Kp hr hc => ?_)
  · obtain ⟨_, rfl, _⟩ := hc
    rfl
  · obtain ⟨a0, rfl, i, rfl, hc⟩ := hc
    refine ss_cons (sn_ret (se_and (se_isB (n := "int") (V.b _ (by decide +kernel)) (V.b _ (by decide +kernel)) PyProof.Rows.boot_int (sb_nm 0 ?_))))
    refine ⟨_, true, rfl, kit_ty (by decide +kernel), _, rfl, ?_⟩
    refine se_and1 (se_not (se_isB (n := "bool") (V.b _ (by decide +kernel)) (V.b _ (by decide +kernel)) PyProof.Rows.boot_bool (sb_nm 0 ?_)))
    exact ⟨_, false, rfl, kit_ty (by decide +kernel), _, rfl, hc⟩
def ct_is_list : CT := c1 fun n a0 Kp => ∃ ds, a0 = .lst ds ∧ Kp n (.bl true)
theorem sc_is_list : FnScope ["thing"] ["thing"] (defScope (topS 14)) := ⟨rfl, rfl, rfl, by decide +kernel, rfl, by decide +kernel, by decide +kernel⟩
theorem nd_is_list : List.Nodup (["thing"] : List Str) := by decide +kernel
theorem d_is_list (V : Ev K mg cP cT)  : DefOk P w K mg base "is_list" 2 ["thing"] ct_is_list := by
  obtain ⟨f, fd, F, hm⟩ := V.t (tn "is_list" 14) (by decide +kernel)
  refine def_ok F hm (F.binds (ps := ["thing"]) fun _ _ _ _ _ _ us hl => match us, hl with | [_], _ => rfl) sc_is_list (fun n ds Kp hc => ?_) (fun cdv A outer s H E W n ds Kp hr hc => ?_)
  · obtain ⟨_, rfl, _⟩ := hc
    rfl
  · obtain ⟨a0, rfl, i, rfl, hc⟩ := hc
    refine ss_cons (sn_ret (se_isLT (V.b _ (by decide +kernel)) (V.b _ (by decide +kernel)) (V.b _ (by decide +kernel)) (sb_nm 0 ?_)))
    exact ⟨_, true, rfl, kitAny_cons (kit_ty (r := true) (by decide +kernel)) (fun z => by cases z) (fun _ => rfl), hc⟩
def ct_is_between : CT := c3 fun n a0 a1 a2 Kp => ∃ i j k, a0 = .int i ∧ a1 = .int j ∧ a2 = .int k ∧ Kp n (.bl (decide (j ≤ i) && decide (i ≤ k)))
theorem sc_is_between : FnScope ["thing", "least", "most"] ["thing", "least", "most"] (defScope (topS 15)) := ⟨rfl, rfl, rfl, by decide +kernel, rfl, by decide +kernel, by decide +kernel⟩
theorem nd_is_between : List.Nodup (["thing", "least", "most"] : List Str) := by decide +kernel
theorem d_is_between (V : Ev K mg cP cT) (h1 : DefOk P w K mg base "is_number" 2 ["thing"] ct_is_number) : DefOk P w K mg base "is_between" 4 ["thing", "least", "most"] ct_is_between := by
  obtain ⟨f, fd, F, hm⟩ := V.t (tn "is_between" 15) (by decide +kernel)
  refine def_ok F hm (F.binds (ps := ["thing", "least", "most"]) fun _ _ _ _ _ _ us hl => match us, hl with | [_, _, _], _ => rfl) sc_is_between (fun n ds Kp hc => ?_) (fun cdv A outer s H E W n ds Kp hr hc => ?_)
  · obtain ⟨_, _, _, rfl, _⟩ := hc
    rfl
  · obtain ⟨a0, a1, a2, rfl, i, j, k, rfl, rfl, rfl, hc⟩ := hc
    refine ss_cons (sn_ret (se_and (se_call h1 (hr.mono (by decide)) (sa_cons (se_va 0 ?_)))))
    refine sa_nil ⟨_, rfl, _, rfl, _, rfl, ?_⟩
    refine se_and1 (se_chainLL (sb_nm 1 (sb_nm 0 ?_)))
    refine ⟨_, _, rfl, rfl, ?_⟩
    by_cases q : j ≤ i
    · rw [if_pos (decide_eq_true q)]
      refine sb_nm 2 ⟨_, rfl, ?_⟩
      rw [decide_eq_true q] at hc
      exact hc
    · rw [if_neg (by rw [decide_eq_false q]; exact Bool.false_ne_true)]
      rw [decide_eq_false q] at hc
      exact hc
def ct_is_length : CT := c1 fun n a0 Kp => ∃ i, a0 = .int i ∧ Kp n (.bl (decide (1 ≤ i) && decide (i ≤ 8)))
theorem sc_is_length : FnScope ["thing"] ["thing"] (defScope (topS 16)) := ⟨rfl, rfl, rfl, by decide +kernel, rfl, by decide +kernel, by decide +kernel⟩
theorem nd_is_length : List.Nodup (["thing"] : List Str) := by decide +kernel
theorem d_is_length (V : Ev K mg cP cT) (h1 : DefOk P w K mg base "is_between" 4 ["thing", "least", "most"] ct_is_between) : DefOk P w K mg base "is_length" 5 ["thing"] ct_is_length := by
  obtain ⟨f, fd, F, hm⟩ := V.t (tn "is_length" 16) (by decide +kernel)
  refine def_ok F hm (F.binds (ps := ["thing"]) fun _ _ _ _ _ _ us hl => match us, hl with | [_], _ => rfl) sc_is_length (fun n ds Kp hc => ?_) (fun cdv A outer s H E W n ds Kp hr hc => ?_)
  · obtain ⟨_, rfl, _⟩ := hc
    rfl
  · obtain ⟨a0, rfl, i, rfl, hc⟩ := hc
    obtain ⟨t, ht⟩ := V.cI (_, _) (List.mem_cons_self)
    refine ss_cons (sn_ret (se_call h1 (hr.mono (by decide)) (sa_cons (se_va 0 (sa_cons (se_int (sa_cons (se_gi ht ?_))))))))
    exact sa_nil ⟨_, _, _, rfl, _, _, _, rfl, rfl, rfl, hc⟩
def ct_is_time : CT := c2 fun n a0 a1 Kp => ∃ (t : T) (l : Int), a0 = tD t ∧ a1 = .int l ∧ Kp n (.bl (okT l t))
theorem sc_is_time : FnScope ["thing", "length"] ["thing", "length"] (defScope (topS 17)) := ⟨rfl, rfl, rfl, by decide +kernel, rfl, by decide +kernel, by decide +kernel⟩
theorem nd_is_time : List.Nodup (["thing", "length"] : List Str) := by decide +kernel
theorem d_is_time (V : Ev K mg cP cT) (h1 : DefOk P w K mg base "is_between" 4 ["thing", "least", "most"] ct_is_between) : DefOk P w K mg base "is_time" 5 ["thing", "length"] ct_is_time := by
  obtain ⟨f, fd, F, hm⟩ := V.t (tn "is_time" 17) (by decide +kernel)
  refine def_ok F hm (F.binds (ps := ["thing", "length"]) fun _ _ _ _ _ _ us hl => match us, hl with | [_, _], _ => rfl) sc_is_time (fun n ds Kp hc => ?_) (fun cdv A outer s H E W n ds Kp hr hc => ?_)
  · obtain ⟨_, _, rfl, _⟩ := hc
    rfl
  · obtain ⟨a0, a1, rfl, t, l, rfl, rfl, hc⟩ := hc
    refine ss_cons (sn_ret (se_or (se_cmp (sc_is (sb_nm 0 ?_)))))
    cases t with
    | none => exact ⟨_, rfl, hc⟩
    | some i =>
      refine ⟨_, rfl, ?_⟩
      refine se_and1 (se_call h1 (hr.mono (by decide)) (sa_cons (se_va 0 (sa_cons (se_int (sa_cons (se_va 1 ?_)))))))
      exact sa_nil ⟨_, _, _, rfl, _, _, _, rfl, rfl, rfl, hc⟩
def ct_times_of : CT := c1 fun n a0 Kp => ∃ l : Int, a0 = .int l ∧ 0 ≤ l ∧ l ≤ 1000 ∧ Kp n (.lst ((tms l).map tD))
theorem sc_times_of : FnScope ["length"] ["length"] (defScope (topS 18)) := ⟨rfl, rfl, rfl, by decide +kernel, rfl, by decide +kernel, by decide +kernel⟩
theorem nd_times_of : List.Nodup (["length"] : List Str) := by decide +kernel
theorem d_times_of (V : Ev K mg cP cT)  : DefOk P w K mg base "times_of" 2 ["length"] ct_times_of := by
  obtain ⟨f, fd, F, hm⟩ := V.t (tn "times_of" 18) (by decide +kernel)
  refine def_ok F hm (F.binds (ps := ["length"]) fun _ _ _ _ _ _ us hl => match us, hl with | [_], _ => rfl) sc_times_of (fun n ds Kp hc => ?_) (fun cdv A outer s H E W n ds Kp hr hc => ?_)
  · obtain ⟨_, rfl, _⟩ := hc
    rfl
  · obtain ⟨a0, rfl, l, rfl, h0, h1, hc⟩ := hc
    refine ss_cons (sn_ret (se_add (SE.sb (SF.se (sf_listR1 rfl (V.b _ (by decide +kernel)) (V.b _ (by decide +kernel)) (SE.sb (se_add (sb_nm 0 ?_))))))))
    refine SE.sb (se_int ⟨_, .int, _, rfl, by omega, by omega, ?_⟩)
    rw [← tms_D] at hc
    refine SE.sb (SF.se (sf_lst (sa_cons (se_non (sa_nil ⟨by decide, _, .lst ?_, hc⟩)))))
    rw [rngD_length, List.length_singleton, sizeLine_eq]
    omega
end
end Sk
set_option maxHeartbeats 4000000
/-! F2: rows, hearing. -/
namespace Sk
open PySem PySem.Spec PyProof.Rows L2
section
variable {P : Program} {w : World} {K : PySem.W.Frag} {mg : Str → Option Value} {base : Heap} {cP cT : Addr}
def ct_is_row_at : CT := c2 fun n a0 a1 Kp => ∃ (r : List T) (l : Int), a0 = rowD r ∧ a1 = .int l ∧ 1 ≤ r.length ∧ r.length ≤ 3 ∧ Kp n (.bl (r.all (okT l)))
theorem sc_is_row_at : FnScope ["thing", "length", "time"] ["thing", "length"] (defScope (topS 19)) := ⟨rfl, rfl, rfl, by decide +kernel, rfl, by decide +kernel, by decide +kernel⟩
theorem nd_is_row_at : List.Nodup (["thing", "length", "time"] : List Str) := by decide +kernel
theorem d_is_row_at (V : Ev K mg cP cT) (h1 : DefOk P w K mg base "is_time" 5 ["thing", "length"] ct_is_time) : DefOk P w K mg base "is_row_at" 7 ["thing", "length"] ct_is_row_at := by
  obtain ⟨f, fd, F, hm⟩ := V.t (tn "is_row_at" 19) (by decide +kernel)
  refine def_ok F hm (F.binds (ps := ["thing", "length"]) fun _ _ _ _ _ _ us hl => match us, hl with | [_, _], _ => rfl) sc_is_row_at (fun n ds Kp hc => ?_) (fun cdv A outer s H E W n ds Kp hr hc => ?_)
  · obtain ⟨_, _, rfl, _⟩ := hc
    rfl
  · obtain ⟨a0, a1, rfl, r, l, rfl, rfl, l1, l2, hc⟩ := hc
    obtain ⟨t, ht⟩ := V.cI (_, _) (List.mem_cons_of_mem _ List.mem_cons_self)
    refine ss_cons (sn_ret (se_and (se_isB (n := "tuple") (V.b _ (by decide +kernel)) (V.b _ (by decide +kernel)) PyProof.Rows.boot_tuple (sb_nm 0 ?_))))
    refine ⟨_, true, rfl, kit_ty (by decide +kernel), _, rfl, ?_⟩
    refine se_and (se_chainLL (SE.sb (se_int (SE.sb (se_len (V.b _ (by decide +kernel)) (sb_nm 0 ?_))))))
    have el : (r.map tD).length = r.length := List.length_map ..
    refine ⟨_, rfl, _, _, rfl, rfl, ?_⟩
    rw [if_pos (decide_eq_true (by omega))]
    refine SE.sb (se_gi ht ⟨_, rfl, _, rfl, ?_⟩)
    rw [if_pos (decide_eq_true (by show (((r.map tD).length : Nat) : Int) ≤ 3; omega))]
    refine se_and1 (se_all (V.b _ (by decide +kernel)) rfl (SE.sb (SL.se (sl_lcM (α := T) 2 rfl nd_is_row_at (si_tup (se_va 0 ?_))))))
    refine ⟨_, rfl, r, tD, fun t => .bl (okT l t), rfl, by omega, fun t ht γ W' hg s Hb C cl fp Kq hq => ?_, r.map (okT l), by rw [List.map_map]; rfl, ?_⟩
    · exact se_call h1 (hr.mono (by decide)) (sa_cons (se_va 2 (sa_cons (se_va 1 (sa_nil ⟨_, _, rfl, t, l, rfl, rfl, hq⟩)))))
    · rw [List.all_map]
      exact hc
def ct_all_rows : CT := c2 fun n a0 a1 Kp => ∃ l : Int, a0 = .int 1 ∧ a1 = .int l ∧ 0 ≤ l ∧ l ≤ 1000 ∧ Kp n (.lst ((tms l).map fun t => rowD [t]))
theorem sc_all_rows : FnScope ["size", "length", "several", "_", "time"] ["size", "length"] (defScope (topS 21)) := ⟨rfl, rfl, rfl, by decide +kernel, rfl, by decide +kernel, by decide +kernel⟩
theorem nd_all_rows : List.Nodup (["size", "length", "several", "_", "time"] : List Str) := by decide +kernel
theorem d_all_rows (V : Ev K mg cP cT) (h1 : DefOk P w K mg base "times_of" 2 ["length"] ct_times_of) : DefOk P w K mg base "all_rows" 7 ["size", "length"] ct_all_rows := by
  obtain ⟨f, fd, F, hm⟩ := V.t (tn "all_rows" 21) (by decide +kernel)
  refine def_ok F hm (F.binds (ps := ["size", "length"]) fun _ _ _ _ _ _ us hl => match us, hl with | [_, _], _ => rfl) sc_all_rows (fun n ds Kp hc => ?_) (fun cdv A outer s H E W n ds Kp hr hc => ?_)
  · obtain ⟨_, _, rfl, _⟩ := hc
    rfl
  · obtain ⟨a0, a1, rfl, l, rfl, rfl, l1, l2, hc⟩ := hc
    refine ss_cons (sn_setLc 2 (sl_lcM (α := Unit) 3 rfl nd_all_rows (si_range1 (V.b _ (by decide +kernel)) (sa_cons (se_va 0 (sa_nil ?_))))))
    refine ⟨1, rfl, by decide, [()], fun _ => .int 0, fun _ => .lst ((tms l).map tD), rfl, by decide, fun y hy γ W' hg s Hb C cl fp Kq hq => ?_, ?_⟩
    · exact se_call h1 (hr.mono (by decide)) (sa_cons (se_va 1 (sa_nil ⟨_, rfl, l, rfl, l1, l2, hq⟩)))
    refine ss_cons (sn_if (st_cmp (sc_eq hr.units (sb_nm 0 (SE.sb (se_int ⟨rfl, rfl, ?_⟩))))))
    refine ss_cons (sn_ret (SL.se (sl_lcM (α := T) 4 rfl nd_all_rows (si_list (se_ix (sb_nm 2 (SE.sb (se_int ⟨_, .lst (by decide) rfl, ?_⟩))))))))
    refine ⟨_, rfl, tms l, tD, fun t => rowD [t], rfl, by rw [tms_len]; omega, fun t ht γ W' hg s Hb C cl fp Kq hq => ?_, hc⟩
    exact se_tup (sa_cons (se_va 4 (sa_nil ⟨one_le, hq⟩)))
def ct_seen_until : CT := c2 fun n a0 a1 Kp => ∃ (t : T) (m : Int), a0 = rowD [t] ∧ a1 = .int m ∧ Kp n (rowD [seenU (some m) t])
theorem sc_seen_until : FnScope ["row", "moment", "time"] ["row", "moment"] (defScope (topS 22)) := ⟨rfl, rfl, rfl, by decide +kernel, rfl, by decide +kernel, by decide +kernel⟩
theorem nd_seen_until : List.Nodup (["row", "moment", "time"] : List Str) := by decide +kernel
theorem d_seen_until (V : Ev K mg cP cT)  : DefOk P w K mg base "seen_until" 3 ["row", "moment"] ct_seen_until := by
  obtain ⟨f, fd, F, hm⟩ := V.t (tn "seen_until" 22) (by decide +kernel)
  refine def_ok F hm (F.binds (ps := ["row", "moment"]) fun _ _ _ _ _ _ us hl => match us, hl with | [_, _], _ => rfl) sc_seen_until (fun n ds Kp hc => ?_) (fun cdv A outer s H E W n ds Kp hr hc => ?_)
  · obtain ⟨_, _, rfl, _⟩ := hc
    rfl
  · obtain ⟨a0, a1, rfl, t, m, rfl, rfl, hc⟩ := hc
    refine ss_cons (sn_ret (se_ifE (st_cmp (sc_is (sb_nm 1 ?_)))))
    refine se_tuple (V.b _ (by decide +kernel)) (SE.sb (SL.se (sl_lcM (α := T) 2 rfl nd_seen_until (si_tup (se_va 0 ?_)))))
    refine ⟨_, rfl, [t], tD, fun t => tD (seenU (some m) t), rfl, by simp, fun t ht γ W' hg s Hb C cl fp Kq hq => ?_, _, .inl rfl, hc⟩
    refine se_ifE (SW.st (sw_or (st_cmp (sc_is (sb_nm 2 ?_)))))
    cases t with
    | none => exact se_non hq
    | some i =>
      have hq : Kq n (tD (seenU (some m) (some i))) := hq
      refine sw_one (st_cmp (sc_gt (sb_nm 2 (sb_nm 1 ⟨_, _, rfl, rfl, ?_⟩))))
      by_cases q : m < i
      · rw [if_pos (decide_eq_true q)]
        have e : seenU (some m) (some i) = none := if_pos q
        rw [e] at hq
        exact se_non hq
      · rw [if_neg (by rw [decide_eq_false q]; exact Bool.false_ne_true)]
        have e : seenU (some m) (some i) = some i := if_neg q
        rw [e] at hq
        exact se_va 2 hq
end
end Sk
set_option maxHeartbeats 4000000
/-! F3: pairs, hearing, sources, readings. -/
namespace Sk
open PySem PySem.Spec PyProof.Rows L2
def pairD (a b : Int) : D := .tup [.int a, .int b]
/-- bounds under which the text is walked -/
structure Sm (a b l : Int) : Prop where
  a0 : 0 ≤ a
  ab : a ≤ b
  b1 : b ≤ 100
  l0 : 0 ≤ l
  l1 : l ≤ 100
def okS (l : Int) : T → Prop
  | none => True
  | some i => 0 ≤ i ∧ i ≤ l
theorem tms_ok {l : Int} {t : T} (h : t ∈ tms l) : okS l t := by
  unfold tms irng at h
  rcases List.mem_append.mp h with z | z
  · obtain ⟨i, hi, rfl⟩ := List.mem_map.mp z
    obtain ⟨j, hj, rfl⟩ := List.mem_map.mp hi
    rw [List.mem_range] at hj
    show 0 ≤ (0 : Int) + (j : Nat) ∧ (0 : Int) + (j : Nat) ≤ l
    omega
  · have e : t = none := by simpa using z
    subst e
    trivial
theorem hear_D {a b l i : Int} : (hear a b l (some i)).map tD = (((irng a (b + 1 - a).toNat).filter fun d => decide (i + d ≤ l)).map fun d => D.int (i + d)) ++ (if decide (l < i + b) = true then [D.non] else []) := by
  show ((((irng a (b + 1 - a).toNat).filter fun d => decide (i + d ≤ l)).map fun d => (some (i + d) : T)) ++ (if decide (l < i + b) = true then [none] else [])).map tD = _
  rw [List.map_append, List.map_map]
  congr 1
  by_cases q : l < i + b
  · rw [if_pos (decide_eq_true q), if_pos (decide_eq_true q)]
    rfl
  · rw [if_neg (by rw [decide_eq_false q]; exact Bool.false_ne_true), if_neg (by rw [decide_eq_false q]; exact Bool.false_ne_true)]
    rfl
theorem hear_len {a b l : Int} {t : T} (h : Sm a b l) : (hear a b l t).length ≤ 110 := by
  cases t with
  | none => exact Nat.le_trans (Nat.le_refl 1) (by decide)
  | some i =>
    show ((((irng a (b + 1 - a).toNat).filter fun d => decide (i + d ≤ l)).map fun d => (some (i + d) : T)) ++ (if decide (l < i + b) = true then [none] else [])).length ≤ 110
    rw [List.length_append, List.length_map]
    have h1 := List.length_filter_le (fun d => decide (i + d ≤ l)) (irng a (b + 1 - a).toNat)
    rw [irng_len] at h1
    have h2 : (if decide (l < i + b) = true then [(none : T)] else []).length ≤ 1 := by
      by_cases q : l < i + b
      · rw [if_pos (decide_eq_true q)]
        exact Nat.le_refl _
      · rw [if_neg (by rw [decide_eq_false q]; exact Bool.false_ne_true)]
        exact Nat.zero_le _
    have := h.a0
    have := h.ab
    have := h.b1
    omega
section
variable {P : Program} {w : World} {K : PySem.W.Frag} {mg : Str → Option Value} {base : Heap} {cP cT : Addr}
def ct_is_pair_of : CT := c2 fun n a0 a1 Kp => ∃ a b m : Int, a0 = pairD a b ∧ a1 = .int m ∧ 0 ≤ a ∧ a ≤ b ∧ b ≤ m ∧ Kp n (.bl true)
theorem sc_is_pair_of : FnScope ["thing", "most"] ["thing", "most"] (defScope (topS 30)) := ⟨rfl, rfl, rfl, by decide +kernel, rfl, by decide +kernel, by decide +kernel⟩
theorem nd_is_pair_of : List.Nodup (["thing", "most"] : List Str) := by decide +kernel
theorem d_is_pair_of (V : Ev K mg cP cT) (h1 : DefOk P w K mg base "is_between" 4 ["thing", "least", "most"] ct_is_between) : DefOk P w K mg base "is_pair_of" 5 ["thing", "most"] ct_is_pair_of := by
  obtain ⟨f, fd, F, hm⟩ := V.t (tn "is_pair_of" 30) (by decide +kernel)
  refine def_ok F hm (F.binds (ps := ["thing", "most"]) fun _ _ _ _ _ _ us hl => match us, hl with | [_, _], _ => rfl) sc_is_pair_of (fun n ds Kp hc => ?_) (fun cdv A outer s H E W n ds Kp hr hc => ?_)
  · obtain ⟨_, _, rfl, _⟩ := hc
    rfl
  · obtain ⟨a0, a1, rfl, a, b, m, rfl, rfl, q1, q2, q3, hc⟩ := hc
    refine ss_cons (sn_if (SW.st (sw_or (st_not (st_val (se_isB (n := "tuple") (V.b _ (by decide +kernel)) (V.b _ (by decide +kernel)) PyProof.Rows.boot_tuple (sb_nm 0 ?_)))))))
    refine ⟨_, true, rfl, kit_ty (by decide +kernel), _, rfl, ?_⟩
    refine sw_one (st_cmp (sc_ne hr.units (SE.sb (se_len (V.b _ (by decide +kernel)) (sb_nm 0 ?_)))))
    refine ⟨2, rfl, SE.sb (se_int ⟨rfl, rfl, ?_⟩)⟩
    refine ss_nil ?_
    refine ss_cons (sn_ret (se_and (se_call h1 (hr.mono (by decide)) (sa_cons (se_ix (sb_nm 0 (SE.sb (se_int ?_))))))))
    refine ⟨_, .tup (by decide) rfl, sa_cons (se_int (sa_cons (se_va 1 (sa_nil ?_))))⟩
    refine ⟨_, _, _, rfl, _, _, _, rfl, rfl, rfl, _, rfl, ?_⟩
    rw [if_pos (by rw [decide_eq_true q1, decide_eq_true (by omega : a ≤ m)]; rfl)]
    refine se_and1 (se_call h1 (hr.mono (by decide)) (sa_cons (se_ix (sb_nm 0 (SE.sb (se_int ?_))))))
    refine ⟨_, .tup (by decide) rfl, sa_cons (se_ix (sb_nm 0 (SE.sb (se_int ?_))))⟩
    refine ⟨_, .tup (by decide) rfl, sa_cons (se_va 1 (sa_nil ?_))⟩
    refine ⟨_, _, _, rfl, _, _, _, rfl, rfl, rfl, ?_⟩
    rw [decide_eq_true q2, decide_eq_true q3]
    exact hc
def ct_heard_from : CT := c3 fun n a0 a1 a2 Kp => ∃ (a b l : Int) (t : T), a0 = pairD a b ∧ a1 = .int l ∧ a2 = tD t ∧ Sm a b l ∧ okS l t ∧ Kp n (.lst ((hear a b l t).map tD))
theorem sc_heard_from : FnScope ["pair", "length", "time", "found", "delay"] ["pair", "length", "time"] (defScope (topS 43)) := ⟨rfl, rfl, rfl, by decide +kernel, rfl, by decide +kernel, by decide +kernel⟩
theorem nd_heard_from : List.Nodup (["pair", "length", "time", "found", "delay"] : List Str) := by decide +kernel
theorem d_heard_from (V : Ev K mg cP cT)  : DefOk P w K mg base "heard_from" 3 ["pair", "length", "time"] ct_heard_from := by
  obtain ⟨f, fd, F, hm⟩ := V.t (tn "heard_from" 43) (by decide +kernel)
  refine def_ok F hm (F.binds (ps := ["pair", "length", "time"]) fun _ _ _ _ _ _ us hl => match us, hl with | [_, _, _], _ => rfl) sc_heard_from (fun n ds Kp hc => ?_) (fun cdv A outer s H E W n ds Kp hr hc => ?_)
  · obtain ⟨_, _, _, rfl, _⟩ := hc
    rfl
  · obtain ⟨a0, a1, a2, rfl, a, b, l, t, rfl, rfl, rfl, sm, ok, hc⟩ := hc
    obtain ⟨q1, q2, q3, q4, q5⟩ := id sm
    refine ss_cons (sn_if (st_cmp (sc_is (sb_nm 2 ?_))))
    cases t with
    | none => exact ss_cons (sn_ret (se_lst (sa_cons (se_non (sa_nil ⟨one_le, hc⟩)))))
    | some i =>
      obtain ⟨o1, o2⟩ := (show 0 ≤ i ∧ i ≤ l from ok)
      refine ss_nil (ss_cons (sn_setLc 3 (sl_lcF (α := Int) 4 rfl nd_heard_from (si_range2 (V.b _ (by decide +kernel)) (sa_cons (se_ix (sb_nm 0 (SE.sb (se_int ?_)))))))))
      refine ⟨_, .tup (by decide) rfl, sa_cons (se_add (SE.sb (se_ix (sb_nm 0 (SE.sb (se_int ?_))))))⟩
      refine ⟨_, .tup (by decide) rfl, SE.sb (se_int ⟨_, .int, sa_nil ?_⟩)⟩
      refine ⟨a, b + 1, rfl, by omega, irng a (b + 1 - a).toNat, D.int, fun d => .int (i + d), fun d => decide (i + d ≤ l), rngD_irng _ _, by rw [irng_len]; omega, fun d hd γ W' hg s Hb C cl fp Kq hq => ?_, fun d hd _ γ W' hg s Hb C cl fp Kq hq => ?_, ?_⟩
      · exact st_cmp (sc_le (SE.sb (se_add (sb_nm 2 (sb_nm 4 ⟨_, .int, sb_nm 1 ⟨_, _, rfl, rfl, hq⟩⟩)))))
      · exact se_add (sb_nm 2 (sb_nm 4 ⟨_, .int, hq⟩))
      rw [hear_D] at hc
      refine ss_cons (sn_ret (se_ifE (st_cmp (sc_gt (SE.sb (se_add (sb_nm 2 (SE.sb (se_ix (sb_nm 0 (SE.sb (se_int ?_))))))))))))
      refine ⟨_, .tup (by decide) rfl, _, .int, sb_nm 1 ⟨_, _, rfl, rfl, ?_⟩⟩
      by_cases q : l < i + b
      · rw [if_pos (decide_eq_true q)] at hc ⊢
        refine se_add (sb_nm 3 (SE.sb (se_lst (sa_cons (se_non (sa_nil ⟨one_le, _, .lst ?_, hc⟩))))))
        have h1 := List.length_filter_le (fun d => decide (i + d ≤ l)) (irng a (b + 1 - a).toNat)
        rw [irng_len] at h1
        rw [List.length_map, List.length_singleton, sizeLine_eq]
        omega
      · rw [if_neg (by rw [decide_eq_false q]; exact Bool.false_ne_true)] at hc ⊢
        rw [List.append_nil] at hc
        exact se_va 3 hc
def ct_w_hear : CT := c3 fun n a0 a1 a2 Kp => ∃ (a b l : Int) (t : T), a0 = pairD a b ∧ a1 = .int l ∧ a2 = tD t ∧ Sm a b l ∧ okS l t ∧ Kp n (.lst ((hear a b l t).map tD))
theorem sc_w_hear : FnScope ["_law_pair", "_law_top", "_law_tick", "_law_found", "_law_wait"] ["_law_pair", "_law_top", "_law_tick"] (defScope (topS 66)) := ⟨rfl, rfl, rfl, by decide +kernel, rfl, by decide +kernel, by decide +kernel⟩
theorem nd_w_hear : List.Nodup (["_law_pair", "_law_top", "_law_tick", "_law_found", "_law_wait"] : List Str) := by decide +kernel
theorem d_w_hear (V : Ev K mg cP cT)  : DefOk P w K mg base "_law_hear" 3 ["_law_pair", "_law_top", "_law_tick"] ct_w_hear := by
  obtain ⟨f, fd, F, hm⟩ := V.t (tn "_law_hear" 66) (by decide +kernel)
  refine def_ok F hm (F.binds (ps := ["_law_pair", "_law_top", "_law_tick"]) fun _ _ _ _ _ _ us hl => match us, hl with | [_, _, _], _ => rfl) sc_w_hear (fun n ds Kp hc => ?_) (fun cdv A outer s H E W n ds Kp hr hc => ?_)
  · obtain ⟨_, _, _, rfl, _⟩ := hc
    rfl
  · obtain ⟨a0, a1, a2, rfl, a, b, l, t, rfl, rfl, rfl, sm, ok, hc⟩ := hc
    obtain ⟨q1, q2, q3, q4, q5⟩ := id sm
    refine ss_cons (sn_if (st_cmp (sc_is (sb_nm 2 ?_))))
    cases t with
    | none => exact ss_cons (sn_ret (se_lst (sa_cons (se_non (sa_nil ⟨one_le, hc⟩)))))
    | some i =>
      obtain ⟨o1, o2⟩ := (show 0 ≤ i ∧ i ≤ l from ok)
      refine ss_nil (ss_cons (sn_setLc 3 (sl_lcF (α := Int) 4 rfl nd_w_hear (si_range2 (V.b _ (by decide +kernel)) (sa_cons (se_ix (sb_nm 0 (SE.sb (se_int ?_)))))))))
      refine ⟨_, .tup (by decide) rfl, sa_cons (se_add (SE.sb (se_ix (sb_nm 0 (SE.sb (se_int ?_))))))⟩
      refine ⟨_, .tup (by decide) rfl, SE.sb (se_int ⟨_, .int, sa_nil ?_⟩)⟩
      refine ⟨a, b + 1, rfl, by omega, irng a (b + 1 - a).toNat, D.int, fun d => .int (i + d), fun d => decide (i + d ≤ l), rngD_irng _ _, by rw [irng_len]; omega, fun d hd γ W' hg s Hb C cl fp Kq hq => ?_, fun d hd _ γ W' hg s Hb C cl fp Kq hq => ?_, ?_⟩
      · exact st_cmp (sc_le (SE.sb (se_add (sb_nm 2 (sb_nm 4 ⟨_, .int, sb_nm 1 ⟨_, _, rfl, rfl, hq⟩⟩)))))
      · exact se_add (sb_nm 2 (sb_nm 4 ⟨_, .int, hq⟩))
      rw [hear_D] at hc
      have h1 := List.length_filter_le (fun d => decide (i + d ≤ l)) (irng a (b + 1 - a).toNat)
      rw [irng_len] at h1
      refine ss_cons (sn_ret (se_add (sb_nm 3 (SE.sb (se_ifE (st_cmp (sc_gt (SE.sb (se_add (sb_nm 2 (SE.sb (se_ix (sb_nm 0 (SE.sb (se_int ?_)))))))))))))))
      refine ⟨_, .tup (by decide) rfl, _, .int, sb_nm 1 ⟨_, _, rfl, rfl, ?_⟩⟩
      by_cases q : l < i + b
      · rw [if_pos (decide_eq_true q)] at hc ⊢
        refine se_lst (sa_cons (se_non (sa_nil ⟨one_le, _, .lst ?_, hc⟩)))
        rw [List.length_map, List.length_singleton, sizeLine_eq]
        omega
      · rw [if_neg (by rw [decide_eq_false q]; exact Bool.false_ne_true)] at hc ⊢
        refine se_lst (sa_nil ⟨nil_le, _, .lst ?_, hc⟩)
        rw [List.length_map, List.length_nil, sizeLine_eq]
        omega
def ct_w_ticks : CT := c1 fun n a0 Kp => ∃ l : Int, a0 = .int l ∧ 0 ≤ l ∧ l ≤ 1000 ∧ Kp n (.lst ((tms l).map tD))
theorem sc_w_ticks : FnScope ["_law_top"] ["_law_top"] (defScope (topS 60)) := ⟨rfl, rfl, rfl, by decide +kernel, rfl, by decide +kernel, by decide +kernel⟩
theorem nd_w_ticks : List.Nodup (["_law_top"] : List Str) := by decide +kernel
theorem d_w_ticks (V : Ev K mg cP cT)  : DefOk P w K mg base "_law_ticks" 2 ["_law_top"] ct_w_ticks := by
  obtain ⟨f, fd, F, hm⟩ := V.t (tn "_law_ticks" 60) (by decide +kernel)
  refine def_ok F hm (F.binds (ps := ["_law_top"]) fun _ _ _ _ _ _ us hl => match us, hl with | [_], _ => rfl) sc_w_ticks (fun n ds Kp hc => ?_) (fun cdv A outer s H E W n ds Kp hr hc => ?_)
  · obtain ⟨_, rfl, _⟩ := hc
    rfl
  · obtain ⟨a0, rfl, l, rfl, h0, h1, hc⟩ := hc
    refine ss_cons (sn_ret (se_add (SE.sb (SF.se (sf_listR1 rfl (V.b _ (by decide +kernel)) (V.b _ (by decide +kernel)) (SE.sb (se_add (sb_nm 0 ?_))))))))
    refine SE.sb (se_int ⟨_, .int, _, rfl, by omega, by omega, ?_⟩)
    rw [← tms_D] at hc
    refine SE.sb (SF.se (sf_lst (sa_cons (se_non (sa_nil ⟨by decide, _, .lst ?_, hc⟩)))))
    rw [rngD_length, List.length_singleton, sizeLine_eq]
    omega
end
end Sk
set_option maxHeartbeats 4000000
/-! F4: sources, readings, readers. -/
namespace Sk
open PySem PySem.Spec PyProof.Rows L2
def lD (l : List T) : D := .lst (l.map tD)
def dD (f : TD (List T)) : D := .dct (f.1.map tD) (f.2.map lD)
def rD (f : TD T) : D := .dct (f.1.map tD) (f.2.map tD)
structure Good (N : Nat) (f : TD (List T)) : Prop where
  len : f.1.length = f.2.length
  few : f.1.length ≤ N
  each : ∀ v ∈ f.2, v.length ≤ N
theorem aget_mem {α β : Type} [DecidableEq α] {ks : List α} {vs : List β} {k : α} {v : β} (h : aget ks vs k = some v) : v ∈ vs := by
  unfold aget at h
  cases e : ks.findIdx? fun x => decide (x = k) with
  | none => rw [e] at h; cases h
  | some i =>
    rw [e] at h
    exact List.mem_of_getElem? h
theorem aputV_mem {α β : Type} [DecidableEq α] {ks : List α} {vs : List β} {k : α} {v x : β} (h : x ∈ aputV ks vs k v) : x ∈ vs ∨ x = v := by
  unfold aputV at h
  cases e : ks.findIdx? fun x => decide (x = k) with
  | none =>
    rw [e] at h
    rcases List.mem_append.mp h with z | z
    · exact .inl z
    · exact .inr (by simpa using z)
  | some i =>
    rw [e] at h
    rcases List.mem_or_eq_of_mem_set h with z | z
    · exact .inl z
    · exact .inr z
theorem aputK_len {α : Type} [DecidableEq α] {ks : List α} {k : α} : (aputK ks k).length ≤ ks.length + 1 := by
  unfold aputK
  cases ks.findIdx? fun x => decide (x = k) <;> simp
theorem Good.get {N : Nat} {f : TD (List T)} (g : Good N f) (h : T) : ((aget f.1 f.2 h).getD []).length ≤ N := by
  cases e : aget f.1 f.2 h with
  | none => exact Nat.zero_le _
  | some v => exact g.each v (aget_mem e)
theorem Good.step {N : Nat} {f : TD (List T)} (g : Good N f) (t h : T) : Good (N + 1) (srcStep f t h) := by
  refine ⟨aput_len g.len, Nat.le_trans aputK_len (by have := g.few; omega), fun v hv => ?_⟩
  rcases aputV_mem hv with z | z
  · exact Nat.le_succ_of_le (g.each v z)
  · rw [z, List.length_append, List.length_singleton]
    have := g.get h
    omega
theorem foldl_take_succ {α β : Type} (f : β → α → β) (b : β) {l : List α} {k : Nat} {x : α} (h : l[k]? = some x) : (l.take (k + 1)).foldl f b = f ((l.take k).foldl f b) x := by
  rw [List.take_add_one, h, List.foldl_append]
  rfl
theorem eqD_tD (a b : T) : eqD (tD a) (tD b) = decide (a = b) := by
  cases a <;> cases b
  · rfl
  · rfl
  · rfl
  · rename_i i j
    unfold eqD
    by_cases e : i = j
    · subst e
      rw [decide_eq_true rfl]
      simp [tD, D.py, PyData.eqv]
    · rw [decide_eq_false (fun z => e (Option.some.inj z))]
      simp [tD, D.py, PyData.eqv, e]
theorem any_tD (ts : List T) (r : T) : ((ts.map tD).any fun z => eqD z (tD r)) = decide (r ∈ ts) := by
  rw [List.any_map]
  induction ts with
  | nil => rfl
  | cons t ts ih =>
    rw [List.any_cons, ih]
    show (eqD (tD t) (tD r) || _) = _
    rw [eqD_tD]
    by_cases e : t = r
    · subst e
      simp
    · have e' : ¬ r = t := fun z => e z.symm
      simp [e, e']
theorem lf_tD (t : T) : (tD t).lf = true := by cases t <;> rfl
theorem all_lf (ts : List T) : (ts.map tD).all D.lf = true := by
  rw [List.all_map, List.all_eq_true]
  intro t _
  exact lf_tD t
section
variable {P : Program} {w : World} {K : PySem.W.Frag} {mg : Str → Option Value} {base : Heap} {cP cT : Addr}
def ct_sources_by : CT := c2 fun n a0 a1 Kp => ∃ a b l : Int, a0 = pairD a b ∧ a1 = .int l ∧ Sm a b l ∧ (Good 12000 (srcs a b l) → Kp n (dD (srcs a b l)))
theorem sc_sources_by : FnScope ["pair", "length", "found", "time", "heard"] ["pair", "length"] (defScope (topS 44)) := ⟨rfl, rfl, rfl, by decide +kernel, rfl, by decide +kernel, by decide +kernel⟩
theorem nd_sources_by : List.Nodup (["pair", "length", "found", "time", "heard"] : List Str) := by decide +kernel
theorem d_sources_by (V : Ev K mg cP cT) (h1 : DefOk P w K mg base "times_of" 2 ["length"] ct_times_of) (h2 : DefOk P w K mg base "heard_from" 3 ["pair", "length", "time"] ct_heard_from) : DefOk P w K mg base "sources_by" 4 ["pair", "length"] ct_sources_by := by
  obtain ⟨f, fd, F, hm⟩ := V.t (tn "sources_by" 44) (by decide +kernel)
  refine def_ok F hm (F.binds (ps := ["pair", "length"]) fun _ _ _ _ _ _ us hl => match us, hl with | [_, _], _ => rfl) sc_sources_by (fun n ds Kp hc => ?_) (fun cdv A outer s H E W n ds Kp hr hc => ?_)
  · obtain ⟨_, _, rfl, _⟩ := hc
    rfl
  · obtain ⟨a0, a1, rfl, a, b, l, rfl, rfl, sm, hc⟩ := hc
    obtain ⟨q1, q2, q3, q4, q5⟩ := id sm
    refine ss_cons (sn_own 2 nd_sources_by (sf_dict0 ?_))
    refine ss_cons (sn_for .never rfl (si_list (se_call h1 (hr.mono (by decide)) (sa_cons (se_va 1 (sa_nil ?_))))))
    refine ⟨_, rfl, l, rfl, q4, by omega, _, rfl, ?_⟩
    refine ⟨fun k m s => m = n ∧ k ≤ (tms l).length ∧ ∃ f x y, f = ((tms l).take k).foldl (fun f t => (hear a b l t).foldl (fun f h => srcStep f t h) f) ([], []) ∧ Good (110 * k) f ∧ s = [.va (pairD a b), .va (.int l), .ow (dD f), x, y], ⟨rfl, Nat.zero_le _, ([], []), _, _, rfl, ⟨rfl, Nat.zero_le _, fun _ h => (nomatch h)⟩, rfl⟩, fun k d m s γ hd hJ => ?_, fun m s hJ => ?_⟩
    · obtain ⟨rfl, hk, f, x, y, ef, gf, rfl⟩ := hJ
      rw [List.getElem?_map] at hd
      cases et : (tms l)[k]? with
      | none => rw [et] at hd; cases hd
      | some t =>
        rw [et] at hd
        cases hd
        have okt := tms_ok (List.mem_of_getElem? et)
        refine sg_nm 3 ?_ nd_sources_by
        refine ss_cons (sn_for .never rfl (si_list (se_call h2 (hr.mono (by decide)) (sa_cons (se_va 0 (sa_cons (se_va 1 (sa_cons (se_va 3 (sa_nil ?_))))))))))
        refine ⟨_, _, _, rfl, a, b, l, t, rfl, rfl, rfl, sm, okt, _, rfl, ?_⟩
        refine ⟨fun j m' s => m' = m ∧ j ≤ (hear a b l t).length ∧ ∃ g y, g = ((hear a b l t).take j).foldl (fun f h => srcStep f t h) f ∧ Good (110 * k + j) g ∧ s = [.va (pairD a b), .va (.int l), .ow (dD g), .va (tD t), y], ⟨rfl, Nat.zero_le _, f, _, rfl, gf, rfl⟩, fun j d m' s γ' hd hJ => ?_, fun m' s hJ => ?_⟩
        · obtain ⟨rfl, hj, g, y, eg, gg, rfl⟩ := hJ
          rw [List.getElem?_map] at hd
          cases eh : (hear a b l t)[j]? with
          | none => rw [eh] at hd; cases hd
          | some h =>
            rw [eh] at hd
            cases hd
            refine sg_nm 4 ?_ nd_sources_by
            have jl : j < (hear a b l t).length := (List.getElem?_eq_some_iff.mp eh).1
            have kl : k < (tms l).length := (List.getElem?_eq_some_iff.mp et).1
            have hl110 := hear_len (t := t) sm
            have tl : (tms l).length ≤ 102 := by rw [tms_len]; omega
            have hle : 110 * k + j ≤ 12000 := by omega
            refine ss_cons (sn_dset 2 (u9 hr) (se_add (SE.sb (se_dget2 (u9 hr) (sb_nm 2 ?_)))))
            refine ⟨_, _, rfl, se_va 4 (se_lst (sa_nil ⟨nil_le, tD_kok, ?_⟩))⟩
            have e1 : (dget (g.1.map tD) (g.2.map lD) (tD h)).getD (.lst []) = lD ((aget g.1 g.2 h).getD []) := by
              rw [dget_map tD_cod]
              cases aget g.1 g.2 h <;> rfl
            show SB _ W _ _ fun m y => ∃ z, AddD ((dget (g.1.map tD) (g.2.map lD) (tD h)).getD (.lst [])) y z ∧ _
            rw [e1]
            refine SE.sb (se_lst (sa_cons (se_va 3 (sa_nil ⟨one_le, _, .lst ?_, se_va 4 ⟨tD_kok, ?_, ss_nil ⟨rfl, rfl, jl, srcStep g t h, .va (tD h), ?_, gg.step t h, ?_⟩⟩⟩))))
            · have := gg.get h
              rw [List.length_map, List.length_singleton, sizeLine_eq]
              omega
            · have := gg.few
              rw [List.length_map]
              omega
            · rw [foldl_take_succ _ _ eh, ← eg]
            · have e2 : D.lst (((aget g.1 g.2 h).getD []).map tD ++ [tD t]) = lD ((aget g.1 g.2 h).getD [] ++ [t]) := by
                unfold lD
                rw [List.map_append]
                rfl
              show [Sl.va (pairD a b), .va (.int l), .ow (.dct (dputK (g.1.map tD) (tD h)) (dputV (g.1.map tD) (g.2.map lD) (tD h) (D.lst (((aget g.1 g.2 h).getD []).map tD ++ [tD t])))), _, _] = _
              rw [e2, dputK_map tD_cod, dputV_map tD_cod]
              rfl
        · obtain ⟨rfl, hj, g, y, eg, gg, rfl⟩ := hJ
          rw [List.length_map, List.take_length] at eg
          have kl : k < (tms l).length := (List.getElem?_eq_some_iff.mp et).1
          have hl110 := hear_len (t := t) sm
          refine ss_nil ⟨rfl, rfl, kl, g, _, _, ?_, ⟨gg.len, ?_, fun v hv => ?_⟩, rfl⟩
          · rw [foldl_take_succ _ _ et, ← ef]
            exact eg
          · have := gg.few
            rw [List.length_map] at this
            omega
          · have := gg.each v hv
            rw [List.length_map] at this
            omega
    · obtain ⟨rfl, hk, f, x, y, ef, gf, rfl⟩ := hJ
      rw [List.length_map, List.take_length] at ef
      refine ss_freeze 2 (ss_cons (sn_ret (se_va 2 ?_)))
      subst ef
      refine hc ⟨gf.len, ?_, fun v hv => ?_⟩
      · have := gf.few
        rw [List.length_map, tms_len] at this
        show (srcs a b l).1.length ≤ 12000
        have t2 : (srcs a b l).1.length ≤ 110 * ((l + 1).toNat + 1) := this
        omega
      · have := gf.each v hv
        rw [List.length_map, tms_len] at this
        omega
end
end Sk
set_option maxHeartbeats 4000000
/-! F5: readings, readers. -/
namespace Sk
open PySem PySem.Spec PyProof.Rows L2
theorem okE_lD (ts : List T) : (lD ts).okE = true := by
  have h1 : ∀ ts : List T, flatL (ts.map tD) = true := by
    intro ts
    induction ts with
    | nil => rfl
    | cons t ts ih =>
      show ((tD t).flat && flatL (ts.map tD)) = true
      rw [ih]
      cases t <;> rfl
  have h2 : ∀ ts : List T, PyData.canLayAll0 (pyL (ts.map tD)) = true ∧ PyData.depthAll (pyL (ts.map tD)) = 0 := by
    intro ts
    induction ts with
    | nil => exact ⟨rfl, rfl⟩
    | cons t ts ih =>
      refine ⟨?_, ?_⟩
      · show (PyData.canLay0 (tD t).py && PyData.canLayAll0 (pyL (ts.map tD))) = true
        rw [ih.1]
        cases t <;> rfl
      · show max (PyData.depth (tD t).py) (PyData.depthAll (pyL (ts.map tD))) = 0
        rw [ih.2]
        cases t <;> rfl
  show (flatL (ts.map tD) && (PyData.canLayAll0 (pyL (ts.map tD)) && decide (PyData.depthAll (pyL (ts.map tD)) + 1 ≤ 64))) = true
  rw [h1, (h2 ts).1, (h2 ts).2]
  rfl
theorem eqD_nil (ts : List T) : eqD (lD ts) (.lst []) = ts.isEmpty := by
  cases ts <;> rfl
def preR (h r : T) : Bool := match r, h with
  | none, _ => true
  | some _, none => false
  | some r, some h => !decide (r < h)
theorem isRead_eq {a b l : Int} {ss : List T} {h r : T} : isRead a b l ss h r = (preR h r && ss.all fun t => decide (r ∈ hear a b l t)) := rfl
theorem fold_none {a b l : Int} {S : TD (List T)} : ∀ (ts : List T), ts.foldl (readStep a b l S) none = none
  | [] => rfl
  | _ :: ts => fold_none ts
section
variable {P : Program} {w : World} {K : PySem.W.Frag} {mg : Str → Option Value} {base : Heap} {cP cT : Addr}
def ct_is_read : CT := c5 fun n a0 a1 a2 a3 a4 Kp => ∃ (a b l : Int) (ss : List T) (h r : T), a0 = pairD a b ∧ a1 = .int l ∧ a2 = lD ss ∧ a3 = tD h ∧ a4 = tD r ∧ Sm a b l ∧ (∀ t ∈ ss, okS l t) ∧ ss.length ≤ 12000 ∧ Kp n (.bl (isRead a b l ss h r))
theorem sc_is_read : FnScope ["pair", "length", "sources", "heard", "read", "time"] ["pair", "length", "sources", "heard", "read"] (defScope (topS 45)) := ⟨rfl, rfl, rfl, by decide +kernel, rfl, by decide +kernel, by decide +kernel⟩
theorem nd_is_read : List.Nodup (["pair", "length", "sources", "heard", "read", "time"] : List Str) := by decide +kernel
theorem d_is_read (V : Ev K mg cP cT) (h2 : DefOk P w K mg base "heard_from" 3 ["pair", "length", "time"] ct_heard_from) : DefOk P w K mg base "is_read" 4 ["pair", "length", "sources", "heard", "read"] ct_is_read := by
  obtain ⟨f, fd, F, hm⟩ := V.t (tn "is_read" 45) (by decide +kernel)
  refine def_ok F hm (F.binds (ps := ["pair", "length", "sources", "heard", "read"]) fun _ _ _ _ _ _ us hl => match us, hl with | [_, _, _, _, _], _ => rfl) sc_is_read (fun n ds Kp hc => ?_) (fun cdv A outer s H E W n ds Kp hr hc => ?_)
  · obtain ⟨_, _, _, _, _, rfl, _⟩ := hc
    rfl
  · obtain ⟨a0, a1, a2, a3, a4, rfl, a, b, l, ss, h, r, rfl, rfl, rfl, rfl, rfl, sm, oks, hl, hc⟩ := hc
    refine ss_cons (sn_if (STt.imp (K := fun n' k => n' = n ∧ k = !preR h r) ?_ fun n' k ⟨e1, e2⟩ => ?_))
    · refine SW.st (sw_and (st_cmp (sc_isnot (sb_nm 4 ?_))))
      cases r with
      | none => exact ⟨rfl, rfl⟩
      | some i =>
        refine sw_one (SW.st (sw_or (st_cmp (sc_is (sb_nm 3 ?_)))))
        cases h with
        | none => exact ⟨rfl, rfl⟩
        | some j =>
          refine sw_one (st_cmp (sc_lt (sb_nm 4 (sb_nm 3 ⟨_, _, rfl, rfl, rfl, ?_⟩))))
          show decide (i < j) = !!decide (i < j)
          rw [Bool.not_not]
    · subst e1 e2
      rw [isRead_eq] at hc
      cases hp : preR h r with
      | false =>
        rw [hp, Bool.false_and] at hc
        exact ss_cons (sn_ret (se_bl hc))
      | true =>
        rw [hp, Bool.true_and] at hc
        refine ss_nil (ss_cons (sn_ret (se_all (V.b _ (by decide +kernel)) rfl (SE.sb (SL.se (sl_lcM (α := T) 5 rfl nd_is_read (si_list (se_va 2 ?_))))))))
        refine ⟨_, rfl, ss, tD, fun t => .bl (decide (r ∈ hear a b l t)), rfl, by omega, fun t ht γ W' hg s Hb C cl fp Kq hq => ?_, ss.map (fun t => decide (r ∈ hear a b l t)), by rw [List.map_map]; rfl, ?_⟩
        · refine se_cmp (sc_inF (sb_nm 4 (SE.sb (se_call h2 (hr.mono (by decide)) (sa_cons (se_va 0 (sa_cons (se_va 1 (sa_cons (se_va 5 (sa_nil ?_)))))))))))
          refine ⟨_, _, _, rfl, a, b, l, t, rfl, rfl, rfl, sm, oks t ht, _, .inl rfl, lf_tD r, all_lf _, ?_⟩
          rw [any_tD]
          exact hq
        · rw [List.all_map]
          exact hc
def ct_readings : CT := c4 fun n a0 a1 a2 a3 Kp => ∃ (a b l : Int) (ss : List T) (h : T), a0 = pairD a b ∧ a1 = .int l ∧ a2 = lD ss ∧ a3 = tD h ∧ Sm a b l ∧ (∀ t ∈ ss, okS l t) ∧ ss.length ≤ 12000 ∧ Kp n (lD (reads a b l ss h))
theorem sc_readings : FnScope ["pair", "length", "sources", "heard", "read"] ["pair", "length", "sources", "heard"] (defScope (topS 46)) := ⟨rfl, rfl, rfl, by decide +kernel, rfl, by decide +kernel, by decide +kernel⟩
theorem nd_readings : List.Nodup (["pair", "length", "sources", "heard", "read"] : List Str) := by decide +kernel
theorem d_readings (V : Ev K mg cP cT) (h1 : DefOk P w K mg base "times_of" 2 ["length"] ct_times_of) (h2 : DefOk P w K mg base "is_read" 4 ["pair", "length", "sources", "heard", "read"] ct_is_read) : DefOk P w K mg base "readings" 5 ["pair", "length", "sources", "heard"] ct_readings := by
  obtain ⟨f, fd, F, hm⟩ := V.t (tn "readings" 46) (by decide +kernel)
  refine def_ok F hm (F.binds (ps := ["pair", "length", "sources", "heard"]) fun _ _ _ _ _ _ us hl => match us, hl with | [_, _, _, _], _ => rfl) sc_readings (fun n ds Kp hc => ?_) (fun cdv A outer s H E W n ds Kp hr hc => ?_)
  · obtain ⟨_, _, _, _, rfl, _⟩ := hc
    rfl
  · obtain ⟨a0, a1, a2, a3, rfl, a, b, l, ss, h, rfl, rfl, rfl, rfl, sm, oks, hl, hc⟩ := hc
    obtain ⟨q1, q2, q3, q4, q5⟩ := id sm
    refine ss_cons (sn_ret (SL.se (sl_lcF (α := T) 4 rfl nd_readings (si_list (se_call h1 (hr.mono (by decide)) (sa_cons (se_va 1 (sa_nil ?_))))))))
    refine ⟨_, rfl, l, rfl, q4, by omega, _, rfl, tms l, tD, tD, fun r => isRead a b l ss h r, rfl, by rw [tms_len]; omega, fun r hrm γ W' hg s Hb C cl fp Kq hq => ?_, fun r hrm _ γ W' hg s Hb C cl fp Kq hq => se_va 4 hq, hc⟩
    refine st_val (se_call h2 (hr.mono (by decide)) (sa_cons (se_va 0 (sa_cons (se_va 1 (sa_cons (se_va 2 (sa_cons (se_va 3 (sa_cons (se_va 4 (sa_nil ?_))))))))))))
    exact ⟨_, _, _, _, _, rfl, a, b, l, ss, h, r, rfl, rfl, rfl, rfl, rfl, sm, oks, hl, _, rfl, hq⟩
end
end Sk
set_option maxHeartbeats 4000000
/-! F6: readers, translators, serving. -/
namespace Sk
open PySem PySem.Spec PyProof.Rows L2
theorem fold_inv {α β : Type} (f : β → α → β) (Pr : β → Prop) : ∀ (l : List α) (b : β), Pr b → (∀ b, ∀ a ∈ l, Pr b → Pr (f b a)) → Pr (l.foldl f b)
  | [], b, h, _ => h
  | a :: l, b, h, g => fold_inv f Pr l (f b a) (g b a List.mem_cons_self h) fun b x hx => g b x (List.mem_cons_of_mem _ hx)
theorem srcs_ok {a b l : Int} : ∀ v ∈ (srcs a b l).2, ∀ t ∈ v, okS l t := by
  unfold srcs
  refine fold_inv _ (fun f : TD (List T) => ∀ v ∈ f.2, ∀ t ∈ v, okS l t) (tms l) _ (fun v hv => (nomatch hv)) fun f t ht hf => ?_
  refine fold_inv _ (fun f : TD (List T) => ∀ v ∈ f.2, ∀ t ∈ v, okS l t) _ _ hf fun f h _ hf => ?_
  intro v hv x hx
  rcases aputV_mem hv with z | z
  · exact hf v z x hx
  · subst z
    rcases List.mem_append.mp hx with y | y
    · cases e : aget f.1 f.2 h with
      | none => rw [e] at y; cases y
      | some u =>
        rw [e] at y
        exact hf u (aget_mem e) x y
    · have ex : x = t := by simpa using y
      subst ex
      exact tms_ok ht
def rdD : Option (TD T) → D
  | none => .non
  | some f => rD f
/-- a word, as the text makes them -/
structure WOk (w : Str) : Prop where
  l1 : 1 ≤ w.length
  l2 : w.length ≤ 6
  let_ : ∀ c ∈ w.cps.toList, c ∈ (Str.ofString "abcdefghijklmnopqrstuvwxyz").cps.toList
  keep : w ∉ ([Str.ofString "out", Str.ofString "start", Str.ofString "other"] : List Str)
theorem WOk.strOk {w : Str} (h : WOk w) : PyData.strOk w = true := by
  unfold PyData.strOk
  rw [Array.all_eq_true_iff_forall_mem]
  intro c hc
  have h1 := h.let_ c (Array.mem_toList_iff.mpr hc)
  have h2 : ∀ c ∈ (Str.ofString "abcdefghijklmnopqrstuvwxyz").cps.toList, c < 1114112 := by decide +kernel
  exact decide_eq_true (h2 c h1)
theorem okE_word {w : Str} (h : WOk w) : (D.tup [.str w]).okE = true := by
  show ((true && true) && ((PyData.strOk w && true) && decide (max 0 0 + 1 ≤ 64))) = true
  rw [h.strOk]
  rfl
theorem eqD_word (w : Str) : eqD (.tup [.str w]) (.tup [.str w]) = true := by
  show (PyData.eqv (.str w) (.str w) && true) = true
  simp [PyData.eqv]
theorem str_key (w : Str) (ks : List D) (h : ks = []) : KOk ks (.str w) := ⟨rfl, by simp [D.nk, NestedKey.depth], .inl h⟩
/-- a translator, by the word -/
def trD (w : Str) (f : TD T) : D := .dct [.str w] [rD f]
def trD? (w : Str) : Option (TD T) → D
  | none => .non
  | some f => trD w f
/-- what translator_of gives -/
def trans (l a b s c d s' : Int) : Option (TD T) := if decide (s' < s) = true then none else reader a b l c d
section
variable {P : Program} {w : World} {K : PySem.W.Frag} {mg : Str → Option Value} {base : Heap} {cP cT : Addr}
def ct_reader_of (cP cT : Addr) : CT := c3 fun n a0 a1 a2 Kp => ∃ (w : Str) (l a b s c d s' : Int), a0 = panelD cP w l a b s ∧ a1 = panelD cP w l c d s' ∧ a2 = .int 0 ∧ Sm a b l ∧ Sm c d l ∧ Kp n (rdD (reader a b l c d))
theorem sc_reader_of : FnScope ["one", "other", "at", "found", "length", "by_time", "heard", "some"] ["one", "other", "at"] (defScope (topS 47)) := ⟨rfl, rfl, rfl, by decide +kernel, rfl, by decide +kernel, by decide +kernel⟩
theorem nd_reader_of : List.Nodup (["one", "other", "at", "found", "length", "by_time", "heard", "some"] : List Str) := by decide +kernel
theorem d_reader_of (V : Ev K mg cP cT) (h1 : DefOk P w K mg base "times_of" 2 ["length"] ct_times_of) (h2 : DefOk P w K mg base "sources_by" 4 ["pair", "length"] ct_sources_by) (h3 : DefOk P w K mg base "readings" 5 ["pair", "length", "sources", "heard"] ct_readings) : DefOk P w K mg base "reader_of" 6 ["one", "other", "at"] (ct_reader_of cP cT) := by
  obtain ⟨f, fd, F, hm⟩ := V.t (tn "reader_of" 47) (by decide +kernel)
  refine def_ok F hm (F.binds (ps := ["one", "other", "at"]) fun _ _ _ _ _ _ us hl => match us, hl with | [_, _, _], _ => rfl) sc_reader_of (fun n ds Kp hc => ?_) (fun cdv A outer s H E W n ds Kp hr hc => ?_)
  · obtain ⟨_, _, _, rfl, _⟩ := hc
    rfl
  · obtain ⟨a0, a1, a2, rfl, w, l, a, b, sl, c, d, sl', rfl, rfl, rfl, sm, sm2, hc⟩ := hc
    obtain ⟨q1, q2, q3, q4, q5⟩ := id sm
    refine ss_cons (sn_parFV 3 4 rfl nd_reader_of (by decide) (sf_dict0 fun p => se_fld (sb_nm 0 ?_)))
    refine ⟨_, _, _, _, rfl, V.oP.cl, V.nP _ (by decide +kernel), rfl, ?_⟩
    refine ss_cons (sn_set 5 nd_reader_of (se_call h2 (hr.mono (by decide)) (sa_cons (se_ix (SE.sb (se_fld (sb_nm 0 ?_)))))))
    refine ⟨_, _, _, _, rfl, V.oP.cl, V.nP _ (by decide +kernel), rfl, sb_nm 2 ?_⟩
    refine ⟨_, .tup (by decide) rfl, sa_cons (se_va 4 (sa_nil ?_))⟩
    refine ⟨_, _, rfl, a, b, l, rfl, rfl, sm, fun good => ?_⟩
    refine ss_cons (sn_for .never rfl (si_list (se_call h1 (hr.mono (by decide)) (sa_cons (se_va 4 (sa_nil ?_))))))
    refine ⟨_, rfl, l, rfl, q4, by omega, _, rfl, ?_⟩
    refine ⟨fun k m s => m = n ∧ k ≤ (tms l).length ∧ ∃ f x y, ((tms l).take k).foldl (readStep c d l (srcs a b l)) (some ([], [])) = some f ∧ f.1.length ≤ k ∧ s = [.va (panelD cP w l a b sl), .va (panelD cP w l c d sl'), .va (.int 0), .ow (rD f), .va (.int l), .va (dD (srcs a b l)), x, y], ⟨rfl, Nat.zero_le _, ([], []), _, _, rfl, Nat.zero_le _, rfl⟩, fun k d' m s γ hd hJ => ?_, fun m s hJ => ?_⟩
    · obtain ⟨rfl, hk, f, x, y, ef, lf, rfl⟩ := hJ
      rw [List.getElem?_map] at hd
      cases et : (tms l)[k]? with
      | none => rw [et] at hd; cases hd
      | some t =>
        rw [et] at hd
        cases hd
        have kl : k < (tms l).length := (List.getElem?_eq_some_iff.mp et).1
        have tl := tms_len l
        have step := foldl_take_succ (readStep c d l (srcs a b l)) (some ([], [])) et
        rw [ef] at step
        refine sg_nm 6 ?_ nd_reader_of
        refine ss_cons (sn_if (st_din (u9 hr) (se_va 6 (sb_nm 5 ⟨_, _, rfl, tD_kok, ?_⟩))))
        have e1 := dget_map tD_cod (f := lD) (ks := (srcs a b l).1) (vs := (srcs a b l).2) (k := t)
        rw [e1]
        cases eg : aget (srcs a b l).1 (srcs a b l).2 t with
        | none =>
          refine ss_nil (ss_nil ⟨rfl, rfl, kl, f, _, _, ?_, by omega, rfl⟩)
          rw [step]
          show (match aget (srcs a b l).1 (srcs a b l).2 t with | none => some f | some s => _) = some f
          rw [eg]
        | some ss =>
          have mss := aget_mem eg
          refine ss_cons (sn_set 7 nd_reader_of (se_call h3 (hr.mono (by decide)) (sa_cons (se_ix (SE.sb (se_fld (sb_nm 1 ?_)))))))
          refine ⟨_, _, _, _, rfl, V.oP.cl, V.nP _ (by decide +kernel), rfl, sb_nm 2 ?_⟩
          refine ⟨_, .tup (by decide) rfl, sa_cons (se_va 4 (sa_cons (se_dix (u9 hr) (sb_nm 5 (se_va 6 ?_)))))⟩
          refine ⟨_, _, lD ss, rfl, tD_kok, by rw [e1, eg]; rfl, sa_cons (se_va 6 (sa_nil ?_))⟩
          refine ⟨_, _, _, _, rfl, c, d, l, ss, t, rfl, rfl, rfl, rfl, sm2, srcs_ok ss mss, good.each ss mss, ?_⟩
          refine ss_cons (sn_if (st_cmp (sc_eq hr.units (sb_nm 7 (SE.sb (se_lst (sa_nil ⟨nil_le, okE_lD _, rfl, ?_⟩)))))))
          rw [eqD_nil]
          cases er : reads c d l ss t with
          | nil =>
            refine ss_cons (sn_ret (se_non ?_))
            have e2 : (tms l).foldl (readStep c d l (srcs a b l)) (some ([], [])) = none := by
              rw [← List.take_append_drop (k + 1) (tms l), List.foldl_append, step]
              have e3 : readStep c d l (srcs a b l) (some f) t = none := by
                show (match aget (srcs a b l).1 (srcs a b l).2 t with | none => some f | some s => match reads c d l s t with | [] => none | r :: _ => some (aputK f.1 t, aputV f.1 f.2 t r)) = none
                rw [eg]
                show (match reads c d l ss t with | [] => none | r :: _ => some (aputK f.1 t, aputV f.1 f.2 t r)) = none
                rw [er]
              rw [e3, fold_none]
            have e4 : reader a b l c d = none := e2
            rw [e4] at hc
            exact hc
          | cons r rs =>
            refine ss_nil (ss_cons (sn_dset 3 (u9 hr) (se_ix (sb_nm 7 (SE.sb (se_int ?_))))))
            refine ⟨tD r, .lst (by decide) ?_, se_va 6 ⟨tD_kok, ?_, ss_nil (ss_nil ⟨rfl, rfl, kl, (aputK f.1 t, aputV f.1 f.2 t r), .va (tD t), .va (lD (r :: rs)), ?_, ?_, ?_⟩)⟩⟩
            · rfl
            · rw [List.length_map]
              omega
            · refine step.trans ?_
              show (match aget (srcs a b l).1 (srcs a b l).2 t with | none => some f | some s => match reads c d l s t with | [] => none | r :: _ => some (aputK f.1 t, aputV f.1 f.2 t r)) = _
              rw [eg]
              show (match reads c d l ss t with | [] => none | r :: _ => some (aputK f.1 t, aputV f.1 f.2 t r)) = _
              rw [er]
            · exact Nat.le_trans aputK_len (by show f.1.length + 1 ≤ k + 1; omega)
            · show [Sl.va (panelD cP w l a b sl), .va (panelD cP w l c d sl'), .va (.int 0), .ow (.dct (dputK (f.1.map tD) (tD t)) (dputV (f.1.map tD) (f.2.map tD) (tD t) (tD r))), .va (.int l), .va (dD (srcs a b l)), .va (tD t), .va (lD (r :: rs))] = _
              rw [dputK_map tD_cod, dputV_map tD_cod]
              rfl
    · obtain ⟨rfl, hk, f, x, y, ef, lf, rfl⟩ := hJ
      rw [List.length_map, List.take_length] at ef
      refine ss_freeze 3 (ss_cons (sn_ret (se_va 3 ?_)))
      have e4 : reader a b l c d = some f := ef
      rw [e4] at hc
      exact hc
end
end Sk
set_option maxHeartbeats 4000000
/-! F7: translators, serving. -/
namespace Sk
open PySem PySem.Spec PyProof.Rows L2
theorem kit_self {K : PySem.W.Frag} {c : Addr} : PySem.W.kitOne K (.ref c) (.ref c) = some true := by
  unfold PySem.W.kitOne
  rw [if_pos (by simp)]
theorem eqD_int (i : Int) : eqD (.int i) (.int i) = true := by
  show PyData.eqv (.int i) (.int i) = true
  simp [PyData.eqv]
theorem ent_word {w : Str} : enumD [.str w] = [.tup [.int 0, .str w]] := rfl
section
variable {P : Program} {w : World} {K : PySem.W.Frag} {mg : Str → Option Value} {base : Heap} {cP cT : Addr}
def ct_need_panel (cP cT : Addr) : CT := c1 fun n a0 Kp => ∃ (w : Str) (l a b s : Int), a0 = panelD cP w l a b s ∧ Kp n .non
theorem sc_need_panel : FnScope ["panel"] ["panel"] (defScope (topS 33)) := ⟨rfl, rfl, rfl, by decide +kernel, rfl, by decide +kernel, by decide +kernel⟩
theorem nd_need_panel : List.Nodup (["panel"] : List Str) := by decide +kernel
theorem d_need_panel (V : Ev K mg cP cT)  : DefOk P w K mg base "need_panel" 2 ["panel"] (ct_need_panel cP cT) := by
  obtain ⟨f, fd, F, hm⟩ := V.t (tn "need_panel" 33) (by decide +kernel)
  refine def_ok F hm (F.binds (ps := ["panel"]) fun _ _ _ _ _ _ us hl => match us, hl with | [_], _ => rfl) sc_need_panel (fun n ds Kp hc => ?_) (fun cdv A outer s H E W n ds Kp hr hc => ?_)
  · obtain ⟨_, rfl, _⟩ := hc
    rfl
  · obtain ⟨a0, rfl, w, l, a, b, s, rfl, hc⟩ := hc
    refine ss_cons (sn_if (st_not (st_val (se_isC (V.b _ (by decide +kernel)) V.mP (sb_nm 0 ?_)))))
    refine ⟨_, true, ⟨rfl, V.oP⟩, kit_self, _, rfl, ?_⟩
    exact ss_nil (ss_nil hc)
def ct_need_panels (cP cT : Addr) : CT := c2 fun n a0 a1 Kp => ∃ (w : Str) (l a b s c d s' : Int), a0 = panelD cP w l a b s ∧ a1 = panelD cP w l c d s' ∧ WOk w ∧ Kp n .non
theorem sc_need_panels : FnScope ["one", "other"] ["one", "other"] (defScope (topS 42)) := ⟨rfl, rfl, rfl, by decide +kernel, rfl, by decide +kernel, by decide +kernel⟩
theorem nd_need_panels : List.Nodup (["one", "other"] : List Str) := by decide +kernel
theorem d_need_panels (V : Ev K mg cP cT) (h1 : DefOk P w K mg base "need_panel" 2 ["panel"] (ct_need_panel cP cT)) : DefOk P w K mg base "need_panels" 4 ["one", "other"] (ct_need_panels cP cT) := by
  obtain ⟨f, fd, F, hm⟩ := V.t (tn "need_panels" 42) (by decide +kernel)
  refine def_ok F hm (F.binds (ps := ["one", "other"]) fun _ _ _ _ _ _ us hl => match us, hl with | [_, _], _ => rfl) sc_need_panels (fun n ds Kp hc => ?_) (fun cdv A outer s H E W n ds Kp hr hc => ?_)
  · obtain ⟨_, _, rfl, _⟩ := hc
    rfl
  · obtain ⟨a0, a1, rfl, w, l, a, b, sl, c, d, sl', rfl, rfl, wok, hc⟩ := hc
    refine ss_cons (sn_expr (se_call h1 (hr.mono (by decide)) (sa_cons (se_va 0 (sa_nil ?_)))))
    refine ⟨_, rfl, w, l, a, b, sl, rfl, ?_⟩
    refine ss_cons (sn_expr (se_call h1 (hr.mono (by decide)) (sa_cons (se_va 1 (sa_nil ?_)))))
    refine ⟨_, rfl, w, l, c, d, sl', rfl, ?_⟩
    refine ss_cons (sn_if (SW.st (sw_or (st_cmp (sc_ne hr.units (SE.sb (se_fld (sb_nm 0 ?_))))))))
    refine ⟨_, _, _, _, rfl, V.oP.cl, V.nP _ (by decide +kernel), rfl, SE.sb (se_fld (sb_nm 1 ?_))⟩
    refine ⟨_, _, _, _, rfl, V.oP.cl, V.nP _ (by decide +kernel), rfl, okE_word wok, okE_word wok, ?_⟩
    rw [eqD_word]
    refine sw_one (st_cmp (sc_ne hr.units (SE.sb (se_fld (sb_nm 0 ?_)))))
    refine ⟨_, _, _, _, rfl, V.oP.cl, V.nP _ (by decide +kernel), rfl, SE.sb (se_fld (sb_nm 1 ?_))⟩
    refine ⟨_, _, _, _, rfl, V.oP.cl, V.nP _ (by decide +kernel), rfl, rfl, rfl, ?_⟩
    rw [eqD_int]
    exact ss_nil (ss_nil hc)
def ct_translator_of (cP cT : Addr) : CT := c2 fun n a0 a1 Kp => ∃ (w : Str) (l a b s c d s' : Int), a0 = panelD cP w l a b s ∧ a1 = panelD cP w l c d s' ∧ Sm a b l ∧ Sm c d l ∧ Kp n (trD? w (trans l a b s c d s'))
theorem sc_translator_of : FnScope ["one", "other", "found", "at", "name"] ["one", "other"] (defScope (topS 48)) := ⟨rfl, rfl, rfl, by decide +kernel, rfl, by decide +kernel, by decide +kernel⟩
theorem nd_translator_of : List.Nodup (["one", "other", "found", "at", "name"] : List Str) := by decide +kernel
theorem d_translator_of (V : Ev K mg cP cT) (h1 : DefOk P w K mg base "reader_of" 6 ["one", "other", "at"] (ct_reader_of cP cT)) : DefOk P w K mg base "translator_of" 8 ["one", "other"] (ct_translator_of cP cT) := by
  obtain ⟨f, fd, F, hm⟩ := V.t (tn "translator_of" 48) (by decide +kernel)
  refine def_ok F hm (F.binds (ps := ["one", "other"]) fun _ _ _ _ _ _ us hl => match us, hl with | [_, _], _ => rfl) sc_translator_of (fun n ds Kp hc => ?_) (fun cdv A outer s H E W n ds Kp hr hc => ?_)
  · obtain ⟨_, _, rfl, _⟩ := hc
    rfl
  · obtain ⟨a0, a1, rfl, w, l, a, b, sl, c, d, sl', rfl, rfl, sm, sm2, hc⟩ := hc
    refine ss_cons (sn_if (st_cmp (sc_gt (SE.sb (se_fld (sb_nm 0 ?_))))))
    refine ⟨_, _, _, _, rfl, V.oP.cl, V.nP _ (by decide +kernel), rfl, SE.sb (se_fld (sb_nm 1 ?_))⟩
    refine ⟨_, _, _, _, rfl, V.oP.cl, V.nP _ (by decide +kernel), rfl, _, _, rfl, rfl, ?_⟩
    by_cases q : sl' < sl
    · rw [if_pos (decide_eq_true q)]
      have e : trans l a b sl c d sl' = none := if_pos (decide_eq_true q)
      rw [e] at hc
      exact ss_cons (sn_ret (se_non hc))
    have nq : ¬ decide (sl' < sl) = true := by rw [decide_eq_false q]; exact Bool.false_ne_true
    rw [if_neg nq]
    have e : trans l a b sl c d sl' = reader a b l c d := if_neg nq
    rw [e] at hc
    refine ss_nil (ss_cons (sn_own 2 nd_translator_of (sf_dict0 ?_)))
    refine ss_cons (sn_for1 .never rfl (si_enum (V.b _ (by decide +kernel)) (sa_cons (se_fld (sb_nm 0 ?_)))))
    refine ⟨_, _, _, _, rfl, V.oP.cl, V.nP _ (by decide +kernel), rfl, sa_nil ⟨true, [.str w], rfl, _, ent_word, fun γ => sg_tup2 (i := 3) (j := 4) ?_ rfl nd_translator_of (by decide)⟩⟩
    refine ss_cons (sn_dset 2 (u9 hr) (se_call h1 (hr.mono (by decide)) (sa_cons (se_va 0 (sa_cons (se_va 1 (sa_cons (se_va 3 (sa_nil ?_)))))))))
    refine ⟨_, _, _, rfl, w, l, a, b, sl, c, d, sl', rfl, rfl, rfl, sm, sm2, se_va 4 ⟨str_key w _ rfl, by decide, ss_nil ⟨rfl, ?_⟩⟩⟩
    refine ss_freeze 2 (ss_cons (sn_ret (se_ifE (st_noneVals rfl (u9 hr) (sb_nm 2 ?_)))))
    cases er : reader a b l c d with
    | none =>
      rw [er] at hc
      exact ⟨_, _, rfl, rfl, se_non hc⟩
    | some f =>
      rw [er] at hc
      exact ⟨_, _, rfl, rfl, se_va 2 hc⟩
def ct_serves (cP cT : Addr) : CT := c2 fun n a0 a1 Kp => ∃ (w : Str) (l a b s c d s' : Int), a0 = panelD cP w l a b s ∧ a1 = panelD cP w l c d s' ∧ WOk w ∧ Sm a b l ∧ Sm c d l ∧ Kp n (.bl (trans l a b s c d s').isSome)
theorem sc_serves : FnScope ["one", "other"] ["one", "other"] (defScope (topS 49)) := ⟨rfl, rfl, rfl, by decide +kernel, rfl, by decide +kernel, by decide +kernel⟩
theorem nd_serves : List.Nodup (["one", "other"] : List Str) := by decide +kernel
theorem d_serves (V : Ev K mg cP cT) (h1 : DefOk P w K mg base "need_panels" 4 ["one", "other"] (ct_need_panels cP cT)) (h2 : DefOk P w K mg base "translator_of" 8 ["one", "other"] (ct_translator_of cP cT)) : DefOk P w K mg base "serves" 10 ["one", "other"] (ct_serves cP cT) := by
  obtain ⟨f, fd, F, hm⟩ := V.t (tn "serves" 49) (by decide +kernel)
  refine def_ok F hm (F.binds (ps := ["one", "other"]) fun _ _ _ _ _ _ us hl => match us, hl with | [_, _], _ => rfl) sc_serves (fun n ds Kp hc => ?_) (fun cdv A outer s H E W n ds Kp hr hc => ?_)
  · obtain ⟨_, _, rfl, _⟩ := hc
    rfl
  · obtain ⟨a0, a1, rfl, w, l, a, b, sl, c, d, sl', rfl, rfl, wok, sm, sm2, hc⟩ := hc
    refine ss_cons (sn_expr (se_call h1 (hr.mono (by decide)) (sa_cons (se_va 0 (sa_cons (se_va 1 (sa_nil ?_)))))))
    refine ⟨_, _, rfl, w, l, a, b, sl, c, d, sl', rfl, rfl, wok, ?_⟩
    refine ss_cons (sn_ret (se_cmp (sc_isnot (SE.sb (se_call h2 (hr.mono (by decide)) (sa_cons (se_va 0 (sa_cons (se_va 1 (sa_nil ?_))))))))))
    refine ⟨_, _, rfl, w, l, a, b, sl, c, d, sl', rfl, rfl, sm, sm2, ?_⟩
    have e : ∀ o : Option (TD T), (!(trD? w o).isN) = o.isSome := fun o => by cases o <;> rfl
    show Kp n (.bl (!(trD? w (trans l a b sl c d sl')).isN))
    rw [e]
    exact hc
def ct_translator (cP cT : Addr) : CT := c2 fun n a0 a1 Kp => ∃ (w : Str) (l a b s c d s' : Int), a0 = panelD cP w l a b s ∧ a1 = panelD cP w l c d s' ∧ WOk w ∧ Sm a b l ∧ Sm c d l ∧ Kp n (trD? w (trans l a b s c d s'))
theorem sc_translator : FnScope ["one", "other"] ["one", "other"] (defScope (topS 50)) := ⟨rfl, rfl, rfl, by decide +kernel, rfl, by decide +kernel, by decide +kernel⟩
theorem nd_translator : List.Nodup (["one", "other"] : List Str) := by decide +kernel
theorem d_translator (V : Ev K mg cP cT) (h1 : DefOk P w K mg base "need_panels" 4 ["one", "other"] (ct_need_panels cP cT)) (h2 : DefOk P w K mg base "translator_of" 8 ["one", "other"] (ct_translator_of cP cT)) : DefOk P w K mg base "translator" 10 ["one", "other"] (ct_translator cP cT) := by
  obtain ⟨f, fd, F, hm⟩ := V.t (tn "translator" 50) (by decide +kernel)
  refine def_ok F hm (F.binds (ps := ["one", "other"]) fun _ _ _ _ _ _ us hl => match us, hl with | [_, _], _ => rfl) sc_translator (fun n ds Kp hc => ?_) (fun cdv A outer s H E W n ds Kp hr hc => ?_)
  · obtain ⟨_, _, rfl, _⟩ := hc
    rfl
  · obtain ⟨a0, a1, rfl, w, l, a, b, sl, c, d, sl', rfl, rfl, wok, sm, sm2, hc⟩ := hc
    refine ss_cons (sn_expr (se_call h1 (hr.mono (by decide)) (sa_cons (se_va 0 (sa_cons (se_va 1 (sa_nil ?_)))))))
    refine ⟨_, _, rfl, w, l, a, b, sl, c, d, sl', rfl, rfl, wok, ?_⟩
    refine ss_cons (sn_ret (se_call h2 (hr.mono (by decide)) (sa_cons (se_va 0 (sa_cons (se_va 1 (sa_nil ?_)))))))
    exact ⟨_, _, rfl, w, l, a, b, sl, c, d, sl', rfl, rfl, sm, sm2, hc⟩
end
end Sk
set_option maxHeartbeats 4000000
/-! F8: panels made. -/
namespace Sk
open PySem PySem.Spec PyProof.Rows L2
theorem eqD_str (a b : Str) : eqD (.str a) (.str b) = decide (a = b) := by
  unfold eqD
  by_cases e : a = b
  · subst e
    rw [decide_eq_true rfl]
    simp [D.py, PyData.eqv]
  · rw [decide_eq_false e]
    simp [D.py, PyData.eqv, e]
theorem any_str (ws : List Str) (r : Str) : ((ws.map D.str).any fun z => eqD z (.str r)) = decide (r ∈ ws) := by
  rw [List.any_map]
  induction ws with
  | nil => rfl
  | cons t ts ih =>
    rw [List.any_cons, ih]
    show (eqD (.str t) (.str r) || _) = _
    rw [eqD_str]
    by_cases e : t = r
    · subst e
      simp
    · have e' : ¬ r = t := fun z => e z.symm
      simp [e, e']
theorem WOk.size {w : Str} (h : WOk w) : (D.str w).size = some w.length := if_pos (Nat.le_trans h.l2 (by decide))
def letters : Str := "abcdefghijklmnopqrstuvwxyz"
section
variable {P : Program} {w : World} {K : PySem.W.Frag} {mg : Str → Option Value} {base : Heap} {cP cT : Addr}
def ct_is_name : CT := c1 fun n a0 Kp => ∃ w, a0 = .str w ∧ WOk w ∧ Kp n (.bl true)
theorem sc_is_name : FnScope ["thing", "sign"] ["thing"] (defScope (topS 26)) := ⟨rfl, rfl, rfl, by decide +kernel, rfl, by decide +kernel, by decide +kernel⟩
theorem nd_is_name : List.Nodup (["thing", "sign"] : List Str) := by decide +kernel
theorem d_is_name (V : Ev K mg cP cT)  : DefOk P w K mg base "is_name" 2 ["thing"] ct_is_name := by
  obtain ⟨f, fd, F, hm⟩ := V.t (tn "is_name" 26) (by decide +kernel)
  refine def_ok F hm (F.binds (ps := ["thing"]) fun _ _ _ _ _ _ us hl => match us, hl with | [_], _ => rfl) sc_is_name (fun n ds Kp hc => ?_) (fun cdv A outer s H E W n ds Kp hr hc => ?_)
  · obtain ⟨_, rfl, _⟩ := hc
    rfl
  · obtain ⟨a0, rfl, w, rfl, wok, hc⟩ := hc
    obtain ⟨p, hp, ht⟩ := V.kept
    obtain ⟨tk, hlet⟩ := V.letters
    have l1 := wok.l1
    have l2 := wok.l2
    refine ss_cons (sn_if (SW.st (sw_or (st_not (st_val (se_isB (n := "str") (V.b _ (by decide +kernel)) (V.b _ (by decide +kernel)) PyProof.Rows.boot_str (sb_nm 0 ?_)))))))
    refine ⟨_, true, rfl, kit_ty (by decide +kernel), _, rfl, ?_⟩
    refine sw_or (st_not (st_chainLL (SE.sb (se_int (SE.sb (se_len (V.b _ (by decide +kernel)) (sb_nm 0 ?_)))))))
    refine ⟨_, wok.size, _, _, rfl, rfl, ?_⟩
    rw [if_pos (decide_eq_true (by omega))]
    refine SE.sb (se_int ⟨_, rfl, ?_⟩)
    rw [decide_eq_true (by omega : ((w.length : Nat) : Int) ≤ 6)]
    refine sw_one (st_cmp (sc_inF (sb_nm 0 (SE.sb (se_gt hp ht ?_)))))
    refine ⟨_, .inr rfl, rfl, rfl, ?_⟩
    rw [any_str, decide_eq_false wok.keep]
    refine ss_nil (ss_cons (sn_ret (se_all (V.b _ (by decide +kernel)) rfl (SE.sb (SL.se (sl_lcM (α := Nat) 1 rfl nd_is_name (si_str (se_va 0 ?_))))))))
    refine ⟨_, rfl, w.cps.toList, fun c => .str ⟨#[c]⟩, fun c => .bl (decide (c ∈ letters.cps.toList)), rfl, ?_, fun c hcm γ W' hg s Hb C cl fp Kq hq => ?_, w.cps.toList.map (fun c => decide (c ∈ letters.cps.toList)), by rw [List.map_map]; rfl, ?_⟩
    · have e : w.cps.toList.length = w.length := Array.length_toList
      omega
    · exact se_cmp (sc_inS (sb_nm 1 (SE.sb (se_gs hlet ⟨_, _, rfl, rfl, hq⟩))))
    · have e : (w.cps.toList.map (fun c => decide (c ∈ letters.cps.toList))).all id = true := by
        rw [List.all_map, List.all_eq_true]
        intro c hcm
        exact decide_eq_true (wok.let_ c hcm)
      rw [e]
      exact hc
theorem str_cod : Cod (fun w : Str => D.str w) := ⟨fun a b h => by
  have h' : NestedKey.text a = NestedKey.text b := h
  cases h'
  rfl⟩
theorem str_kok {ks : List Str} {k : Str} : KOk (ks.map D.str) (.str k) := by
  refine ⟨rfl, by simp [D.nk, NestedKey.depth], .inr fun x hx => ?_⟩
  obtain ⟨t, _, rfl⟩ := List.mem_map.mp hx
  rfl
theorem dget_str {w : Str} {d : D} : dget [.str w] [d] (.str w) = some d := by
  have h := dget_map (f := fun x : D => x) str_cod (ks := [w]) (vs := [d]) (k := w)
  have e : aget [w] [d] w = some d := by
    unfold aget
    rw [List.findIdx?_cons, decide_eq_true rfl]
    rfl
  rw [e] at h
  exact h
def ct_delays_from : CT := c3 fun n a0 a1 a2 Kp => ∃ (w : Str) (l a b : Int), a0 = .tup [.str w] ∧ a1 = .int l ∧ a2 = .dct [.str w] [pairD a b] ∧ 0 ≤ a ∧ a ≤ b ∧ b ≤ l + 1 ∧ Kp n (.tup [pairD a b])
theorem sc_delays_from : FnScope ["inputs", "length", "sight", "name"] ["inputs", "length", "sight"] (defScope (topS 31)) := ⟨rfl, rfl, rfl, by decide +kernel, rfl, by decide +kernel, by decide +kernel⟩
theorem nd_delays_from : List.Nodup (["inputs", "length", "sight", "name"] : List Str) := by decide +kernel
theorem d_delays_from (V : Ev K mg cP cT) (h1 : DefOk P w K mg base "is_pair_of" 5 ["thing", "most"] ct_is_pair_of) : DefOk P w K mg base "delays_from" 7 ["inputs", "length", "sight"] ct_delays_from := by
  obtain ⟨f, fd, F, hm⟩ := V.t (tn "delays_from" 31) (by decide +kernel)
  refine def_ok F hm (F.binds (ps := ["inputs", "length", "sight"]) fun _ _ _ _ _ _ us hl => match us, hl with | [_, _, _], _ => rfl) sc_delays_from (fun n ds Kp hc => ?_) (fun cdv A outer s H E W n ds Kp hr hc => ?_)
  · obtain ⟨_, _, _, rfl, _⟩ := hc
    rfl
  · obtain ⟨a0, a1, a2, rfl, w, l, a, b, rfl, rfl, rfl, q1, q2, q3, hc⟩ := hc
    have kok : KOk [D.str w] (.str w) := str_kok (ks := [w])
    refine ss_cons (sn_if (st_cmp (sc_is (sb_nm 2 ?_))))
    refine ss_nil (ss_cons (sn_if (SW.st (sw_or (st_not (st_val (se_isB (n := "dict") (V.b _ (by decide +kernel)) (V.b _ (by decide +kernel)) PyProof.Rows.boot_dict (sb_nm 2 ?_))))))))
    refine ⟨_, true, rfl, kit_ty (by decide +kernel), _, rfl, ?_⟩
    refine sw_one (st_cmp (sc_ne hr.units (SE.sb (se_len (V.b _ (by decide +kernel)) (sb_nm 2 ?_)))))
    refine ⟨1, rfl, SE.sb (se_len (V.b _ (by decide +kernel)) (sb_nm 0 ?_))⟩
    refine ⟨1, rfl, rfl, rfl, ?_⟩
    refine ss_nil (ss_cons (sn_if (st_not (st_val (se_all (V.b _ (by decide +kernel)) rfl (SE.sb (SL.se (sl_lcM (α := Unit) 3 rfl nd_delays_from (si_tup (se_va 0 ?_))))))))))
    refine ⟨_, rfl, [()], fun _ => .str w, fun _ => .bl true, rfl, by decide, fun _ _ γ W' hg s Hb C cl fp Kq hq => ?_, [true], rfl, _, rfl, ?_⟩
    · refine se_and (se_din (u9 hr) (se_va 3 (sb_nm 2 ?_)))
      refine ⟨_, _, rfl, kok, true, by rw [dget_str]; rfl, ?_⟩
      refine se_and1 (se_call h1 (hr.mono (by decide)) (sa_cons (se_dix (u9 hr) (sb_nm 2 (se_va 3 ?_)))))
      refine ⟨_, _, pairD a b, rfl, kok, dget_str, sa_cons (se_add (sb_nm 1 (SE.sb (se_int ⟨_, .int, sa_nil ?_⟩))))⟩
      exact ⟨_, _, rfl, a, b, l + 1, rfl, rfl, q1, q2, q3, hq⟩
    refine ss_nil (ss_cons (sn_ret (se_tuple (V.b _ (by decide +kernel)) (SE.sb (SL.se (sl_lcM (α := Unit) 3 rfl nd_delays_from (si_tup (se_va 0 ?_))))))))
    refine ⟨_, rfl, [()], fun _ => .str w, fun _ => pairD a b, rfl, by decide, fun _ _ γ W' hg s Hb C cl fp Kq hq => ?_, _, .inl rfl, hc⟩
    refine se_dix (u9 hr) (sb_nm 2 (se_va 3 ?_))
    exact ⟨_, _, pairD a b, rfl, kok, dget_str, hq⟩
def ct_Panel (cP cT : Addr) : CT := c4 fun n a0 a1 a2 a3 Kp => ∃ (w : Str) (l a b s : Int), a0 = .lst [.str w] ∧ a1 = .int l ∧ a2 = .dct [.str w] [pairD a b] ∧ a3 = .int s ∧ WOk w ∧ 0 ≤ a ∧ a ≤ b ∧ b ≤ l + 1 ∧ 1 ≤ l ∧ l ≤ 8 ∧ 0 ≤ s ∧ s ≤ 2 ∧ Kp n (panelD cP w l a b s)
theorem sc_Panel : FnScope ["self", "inputs", "length", "sight", "slip", "name"] ["self", "inputs", "length", "sight", "slip"] (defScope (methS 32 0)) := ⟨rfl, rfl, rfl, by decide +kernel, rfl, by decide +kernel, by decide +kernel⟩
theorem nd_Panel : List.Nodup (["self", "inputs", "length", "sight", "slip", "name"] : List Str) := by decide +kernel
theorem i_Panel (V : Ev K mg cP cT) (h1 : DefOk P w K mg base "is_list" 2 ["thing"] ct_is_list) (h2 : DefOk P w K mg base "is_name" 2 ["thing"] ct_is_name) (h3 : DefOk P w K mg base "is_length" 5 ["thing"] ct_is_length) (h4 : DefOk P w K mg base "delays_from" 7 ["inputs", "length", "sight"] ct_delays_from) (h5 : DefOk P w K mg base "is_between" 4 ["thing", "least", "most"] ct_is_between) : MakeOk P w K mg base "Panel" cP 10 ["self", "inputs", "length", "sight", "slip"] (ct_Panel cP cT) := by
  obtain ⟨f, fd, F, M⟩ := V.iP
  refine init_ok F V.mP M (F.binds (ps := ["self", "inputs", "length", "sight", "slip"]) fun _ _ _ _ _ _ us hl => match us, hl with | [_, _, _, _, _], _ => rfl) sc_Panel (fun n ds Kp hc => ?_) (fun cdv A outer s H E W n ds Kp hr hc => ?_)
  · obtain ⟨_, _, _, _, rfl, _⟩ := hc
    rfl
  · obtain ⟨a0, a1, a2, a3, rfl, w, l, a, b, sl, rfl, rfl, rfl, rfl, wok, q1, q2, q3, q4, q5, q6, q7, hc⟩ := hc
    obtain ⟨t1, ht1⟩ := V.cI (_, _) (List.mem_cons_of_mem _ (List.mem_cons_of_mem _ List.mem_cons_self))
    obtain ⟨t2, ht2⟩ := V.cI (_, _) (List.mem_cons_of_mem _ (List.mem_cons_of_mem _ (List.mem_cons_of_mem _ List.mem_cons_self)))
    refine sx_if (SW.st (sw_or (st_not (st_val (se_call h1 (hr.mono (by decide)) (sa_cons (se_va 1 (sa_nil ?_))))))))
    refine ⟨_, rfl, _, rfl, _, rfl, ?_⟩
    refine sw_or (st_not (st_chainLL (SE.sb (se_int (SE.sb (se_len (V.b _ (by decide +kernel)) (sb_nm 1 ?_)))))))
    refine ⟨1, rfl, _, _, rfl, rfl, ?_⟩
    refine SE.sb (se_gi ht1 ⟨_, rfl, ?_⟩)
    refine sw_one (st_not (st_val (se_all (V.b _ (by decide +kernel)) rfl (SE.sb (SL.se (sl_lcM (α := Unit) 5 rfl nd_Panel (si_list (se_va 1 ?_))))))))
    refine ⟨_, rfl, [()], fun _ => .str w, fun _ => .bl true, rfl, by decide, fun _ _ γ W' hg s Hb C cl fp Kq hq => ?_, [true], rfl, _, rfl, rfl, ?_⟩
    · exact se_call h2 (hr.mono (by decide)) (sa_cons (se_va 5 (sa_nil ⟨_, rfl, w, rfl, wok, hq⟩)))
    refine sx_if (st_cmp (sc_ne hr.units (SE.sb (se_lenSet1 (V.b _ (by decide +kernel)) (V.b _ (by decide +kernel)) rfl (sb_nm 1 ?_)))))
    refine ⟨w, rfl, SE.sb (se_len (V.b _ (by decide +kernel)) (sb_nm 1 ?_))⟩
    refine ⟨1, rfl, rfl, rfl, rfl, ?_⟩
    refine sx_if (st_not (st_val (se_call h3 (hr.mono (by decide)) (sa_cons (se_va 2 (sa_nil ?_))))))
    refine ⟨_, rfl, l, rfl, _, rfl, ?_⟩
    rw [decide_eq_true q4, decide_eq_true q5]
    refine ⟨rfl, ?_⟩
    refine sx_set (ns := []) V.oP.cl (V.nP _ (by decide +kernel)) (by decide +kernel) (by decide) (only0 rfl rfl) (se_tuple (V.b _ (by decide +kernel)) (SE.sb (SF.se (sf_sorted1 (V.b _ (by decide +kernel)) (sb_nm 1 ?_)))))
    refine ⟨_, rfl, _, .inl rfl, ?_⟩
    refine sx_set (ns := ["inputs"]) V.oP.cl (V.nP _ (by decide +kernel)) (by decide +kernel) (by decide) (only0 rfl rfl) (se_va 2 ?_)
    refine sx_set (ns := ["inputs", "length"]) V.oP.cl (V.nP _ (by decide +kernel)) (by decide +kernel) (by decide) (only0 rfl rfl) (se_call h4 (hr.mono (by decide)) (sa_cons (se_fld (sb_nm 0 ?_))))
    refine ⟨_, _, _, _, rfl, V.oP.cl, V.nP _ (by decide +kernel), rfl, sa_cons (se_va 2 (sa_cons (se_va 3 (sa_nil ?_))))⟩
    refine ⟨_, _, _, rfl, w, l, a, b, rfl, rfl, rfl, q1, q2, q3, ?_⟩
    refine sx_if (st_not (st_val (se_call h5 (hr.mono (by decide)) (sa_cons (se_va 4 (sa_cons (se_int (sa_cons (se_gi ht2 (sa_nil ?_))))))))))
    refine ⟨_, _, _, rfl, sl, 0, 2, rfl, rfl, rfl, _, rfl, ?_⟩
    rw [decide_eq_true q6, decide_eq_true q7]
    refine ⟨rfl, ?_⟩
    refine sx_set (ns := ["inputs", "length", "delays"]) V.oP.cl (V.nP _ (by decide +kernel)) (by decide +kernel) (by decide) (only0 rfl rfl) (se_va 4 ?_)
    refine sx_set (ns := ["inputs", "length", "delays", "slip"]) V.oP.cl (V.nP _ (by decide +kernel)) (by decide +kernel) (by decide) (only0 rfl rfl) (se_non ?_)
    exact sx_nil ⟨_, rfl, fun i d => noOw_get rfl, hc⟩
end
end Sk
set_option maxHeartbeats 4000000
/-! F9: draws. -/
namespace Sk
open PySem PySem.Spec PyProof.Rows L2
theorem u1 {k : Nat} {A : Around} (r : Room k A) : A.units + 1 < cLine := by have := r.un; omega
section
variable {P : Program} {w : World} {K : PySem.W.Frag} {mg : Str → Option Value} {base : Heap} {cP cT : Addr}
def ct_w_draw : CT := c2 fun n a0 a1 Kp => ∃ m : Int, a0 = .src ∧ a1 = .int m ∧ 0 < m ∧ m ≤ 1000 ∧ 1 ≤ n ∧ ∀ i, 0 ≤ i → i < m → Kp (n - 1) (.int i)
theorem sc_w_draw : FnScope ["_law_state", "_law_many", "_law_found", "_law_turn", "_law_cell", "_law_mixed"] ["_law_state", "_law_many"] (defScope (topS 56)) := ⟨rfl, rfl, rfl, by decide +kernel, rfl, by decide +kernel, by decide +kernel⟩
theorem nd_w_draw : List.Nodup (["_law_state", "_law_many", "_law_found", "_law_turn", "_law_cell", "_law_mixed"] : List Str) := by decide +kernel
theorem d_w_draw (V : Ev K mg cP cT)  : DefOk P w K mg base "_law_draw" 2 ["_law_state", "_law_many"] ct_w_draw := by
  obtain ⟨f, fd, F, hm⟩ := V.t (tn "_law_draw" 56) (by decide +kernel)
  refine def_ok F hm (F.binds (ps := ["_law_state", "_law_many"]) fun _ _ _ _ _ _ us hl => match us, hl with | [_, _], _ => rfl) sc_w_draw (fun n ds Kp hc => ?_) (fun cdv A outer s H E W n ds Kp hr hc => ?_)
  · obtain ⟨_, _, rfl, _⟩ := hc
    rfl
  · obtain ⟨a0, a1, rfl, m, rfl, rfl, m0, m1, n1, hc⟩ := hc
    refine ss_cons (sn_stLoop hr.units .never ?_)
    refine ss_cons (sn_if (st_cmp (sc_gt (SE.sb (se_stRest (u1 hr) fun r h0 => SE.sb (se_int ⟨_, _, rfl, rfl, ?_⟩))))))
    by_cases q : 0 < r
    · rw [if_pos (decide_eq_true q)]
      refine ss_cons (sn_set 2 nd_w_draw (se_mod (SE.sb (se_toint (V.b _ (by decide +kernel)) (SE.sb (se_stRest (u1 hr) fun r1 h1 => ⟨r1, rfl, sb_nm 1 ?_⟩))))))
      refine ⟨_, _, rfl, rfl, m0, ?_⟩
      refine ss_cons (sn_stRest (u1 hr) (se_fdiv (SE.sb (se_stRest (u1 hr) fun r2 h2 => sb_nm 1 ?_))))
      refine ⟨_, _, rfl, rfl, ⟨m0, by omega⟩, _, n - 1, rfl, Int.ediv_nonneg h2 (by omega), Nat.sub_le _ _, ?_⟩
      exact ss_cons (sn_ret (se_va 2 (hc _ (Int.emod_nonneg r1 (by omega)) (Int.emod_lt_of_pos r1 m0))))
    · rw [if_neg (by rw [decide_eq_false q]; exact Bool.false_ne_true)]
      refine ss_nil (ss_cons (sn_set 3 nd_w_draw (se_add (SE.sb (se_stTurn (u1 hr) fun t h0 h1 => SE.sb (se_int ⟨_, .int, ?_⟩))))))
      have h1 : t + n < 1000000 := h1
      refine ss_cons (sn_stTurn (u1 hr) (se_va 3 ⟨t + 1, n - 1, rfl, by omega, by omega, ?_⟩))
      refine ss_cons (sn_set 4 nd_w_draw (se_stCell 3 hr.units (V.b _ (by decide +kernel)) (V.b _ (by decide +kernel)) (by omega : 0 ≤ t + 1) fun c c0 => ?_))
      have b1 := Int.emod_lt_of_pos c (show (0 : Int) < 2147483563 by decide)
      have b2 := Int.emod_nonneg c (show (2147483563 : Int) ≠ 0 by decide)
      refine ss_cons (sn_set 5 nd_w_draw (se_mod (SE.sb (se_toint (V.b _ (by decide +kernel)) (SE.sb (se_pow (SE.sb (se_add (SE.sb (se_add (SE.sb (se_mod (SE.sb (se_toint (V.b _ (by decide +kernel)) (sb_nm 4 ?_)))))))))))))))
      refine ⟨_, rfl, SE.sb (se_int ⟨_, _, rfl, rfl, by decide, SE.sb (se_mul (SE.sb (se_int (sb_nm 3 ?_))))⟩)⟩
      refine ⟨_, _, rfl, rfl, .inl ⟨by decide, by decide⟩, _, .int, SE.sb (se_int ⟨_, .int, SE.sb (se_int ?_)⟩)⟩
      refine ⟨_, _, rfl, rfl, ⟨by decide, by decide, by omega⟩, _, rfl, SE.sb (se_int ⟨_, _, rfl, rfl, by decide, ?_⟩)⟩
      generalize hx : (c % 2147483563 + 40692 * (t + 1) + 24681) ^ (Int.toNat 3) = x
      have b3 := Int.emod_lt_of_pos x (show (0 : Int) < 2147483629 by decide)
      have b4 := Int.emod_nonneg x (show (2147483629 : Int) ≠ 0 by decide)
      refine ss_cons (sn_ret (se_mod (SE.sb (se_toint (V.b _ (by decide +kernel)) (SE.sb (se_fdiv (SE.sb (se_mod (SE.sb (se_toint (V.b _ (by decide +kernel)) (SE.sb (se_pow (SE.sb (se_add (sb_nm 5 ?_)))))))))))))))
      refine SE.sb (se_mul (SE.sb (se_int (sb_nm 3 ?_))))
      refine ⟨_, _, rfl, rfl, .inl ⟨by decide, by decide⟩, _, .int, SE.sb (se_int ⟨_, _, rfl, rfl, ⟨by decide, by decide, by omega⟩, _, rfl, SE.sb (se_int ?_)⟩)⟩
      refine ⟨_, _, rfl, rfl, by decide, SE.sb (se_int ⟨_, _, rfl, rfl, ⟨by decide, by decide⟩, _, rfl, sb_nm 1 ?_⟩)⟩
      refine ⟨_, _, rfl, rfl, m0, ?_⟩
      exact hc _ (Int.emod_nonneg _ (by omega)) (Int.emod_lt_of_pos _ m0)
end
end Sk
set_option maxHeartbeats 4000000
/-! F10: picks, words. -/
namespace Sk
open PySem PySem.Spec PyProof.Rows L2
def signS (c : Nat) : Str := ⟨#[c]⟩
theorem join_signs : ∀ cs : List Nat, (Txt.join Str.empty (cs.map signS)).cps.toList = cs := by
  intro cs
  rw [TL.join_eq]
  have h : ∀ cs : List Nat, (Str.join Str.empty (cs.map signS)).cps.toList = cs := by
    intro cs
    induction cs with
    | nil => rfl
    | cons c cs ih =>
      cases cs with
      | nil => rfl
      | cons d cs =>
        show ((signS c ++ Str.empty) ++ Str.join Str.empty ((d :: cs).map signS)).cps.toList = _
        have e1 : ∀ a b : Str, (a ++ b).cps.toList = a.cps.toList ++ b.cps.toList := fun a b => by
          show (a.cps ++ b.cps).toList = _
          rw [Array.toList_append]
        rw [e1, e1, ih]
        rfl
  exact h cs
theorem wok_cut {w : Str} (h : w ∈ ([Str.ofString "out", Str.ofString "start", Str.ofString "other"] : List Str)) : WOk (cutS w none (some 2)) := by
  have h' : w = Str.ofString "out" ∨ w = Str.ofString "start" ∨ w = Str.ofString "other" := by simpa using h
  rcases h' with z | z | z
  · subst z
    exact ⟨by decide +kernel, by decide +kernel, by decide +kernel, by decide +kernel⟩
  · subst z
    exact ⟨by decide +kernel, by decide +kernel, by decide +kernel, by decide +kernel⟩
  · subst z
    exact ⟨by decide +kernel, by decide +kernel, by decide +kernel, by decide +kernel⟩
section
variable {P : Program} {w : World} {K : PySem.W.Frag} {mg : Str → Option Value} {base : Heap} {cP cT : Addr}
def ct_w_pick : CT := c2 fun n a0 a1 Kp => a0 = .src ∧ 1 ≤ n ∧ ((∃ ds : List D, a1 = .lst ds ∧ 0 < ds.length ∧ ds.length ≤ 1000 ∧ ∀ d ∈ ds, Kp (n - 1) d) ∨ ∃ x : Str, a1 = .str x ∧ 0 < x.length ∧ x.length ≤ 1000 ∧ ∀ c ∈ x.cps.toList, Kp (n - 1) (.str (signS c)))
theorem sc_w_pick : FnScope ["_law_state", "_law_several"] ["_law_state", "_law_several"] (defScope (topS 57)) := ⟨rfl, rfl, rfl, by decide +kernel, rfl, by decide +kernel, by decide +kernel⟩
theorem nd_w_pick : List.Nodup (["_law_state", "_law_several"] : List Str) := by decide +kernel
theorem d_w_pick (V : Ev K mg cP cT) (h1 : DefOk P w K mg base "_law_draw" 2 ["_law_state", "_law_many"] ct_w_draw) : DefOk P w K mg base "_law_pick" 4 ["_law_state", "_law_several"] ct_w_pick := by
  obtain ⟨f, fd, F, hm⟩ := V.t (tn "_law_pick" 57) (by decide +kernel)
  refine def_ok F hm (F.binds (ps := ["_law_state", "_law_several"]) fun _ _ _ _ _ _ us hl => match us, hl with | [_, _], _ => rfl) sc_w_pick (fun n ds Kp hc => ?_) (fun cdv A outer s H E W n ds Kp hr hc => ?_)
  · obtain ⟨_, _, rfl, _⟩ := hc
    rfl
  · obtain ⟨a0, a1, rfl, rfl, n1, hc⟩ := hc
    rcases hc with ⟨ds, rfl, l0, l1, hc⟩ | ⟨x, rfl, l0, l1, hc⟩
    · refine ss_cons (sn_ret (se_ix (sb_nm 1 (SE.sb (se_call h1 (hr.mono (by decide)) (sa_cons (se_va 0 (sa_cons (se_len (V.b _ (by decide +kernel)) (sb_nm 1 ?_))))))))))
      refine ⟨_, rfl, sa_nil ⟨_, _, rfl, _, rfl, rfl, by omega, by omega, n1, fun i h0 hi => ?_⟩⟩
      have il : i.toNat < ds.length := by omega
      exact ⟨_, .lst h0 (List.getElem?_eq_getElem il), hc _ (List.getElem_mem il)⟩
    · have ez : (D.str x).size = some x.length := if_pos (Nat.le_trans l1 (by decide))
      refine ss_cons (sn_ret (se_ix (sb_nm 1 (SE.sb (se_call h1 (hr.mono (by decide)) (sa_cons (se_va 0 (sa_cons (se_len (V.b _ (by decide +kernel)) (sb_nm 1 ?_))))))))))
      refine ⟨_, ez, sa_nil ⟨_, _, rfl, _, rfl, rfl, by omega, by omega, n1, fun i h0 hi => ?_⟩⟩
      have el : x.cps.toList.length = x.length := Array.length_toList
      have il : i.toNat < x.cps.toList.length := by omega
      exact ⟨_, .str h0 (Nat.le_trans l1 (by decide)) (List.getElem?_eq_getElem il), hc _ (List.getElem_mem il)⟩
def ct_w_word : CT := c1 fun n a0 Kp => a0 = .src ∧ 7 ≤ n ∧ ∀ w n', WOk w → n ≤ n' + 7 → Kp n' (.str w)
theorem sc_w_word : FnScope ["_law_state", "_law_found", "_law_spot"] ["_law_state"] (defScope (topS 58)) := ⟨rfl, rfl, rfl, by decide +kernel, rfl, by decide +kernel, by decide +kernel⟩
theorem nd_w_word : List.Nodup (["_law_state", "_law_found", "_law_spot"] : List Str) := by decide +kernel
theorem d_w_word (V : Ev K mg cP cT) (h1 : DefOk P w K mg base "_law_draw" 2 ["_law_state", "_law_many"] ct_w_draw) (h2 : DefOk P w K mg base "_law_pick" 4 ["_law_state", "_law_several"] ct_w_pick) : DefOk P w K mg base "_law_word" 6 ["_law_state"] ct_w_word := by
  obtain ⟨f, fd, F, hm⟩ := V.t (tn "_law_word" 58) (by decide +kernel)
  refine def_ok F hm (F.binds (ps := ["_law_state"]) fun _ _ _ _ _ _ us hl => match us, hl with | [_], _ => rfl) sc_w_word (fun n ds Kp hc => ?_) (fun cdv A outer s H E W n ds Kp hr hc => ?_)
  · obtain ⟨_, rfl, _⟩ := hc
    rfl
  · obtain ⟨a0, rfl, rfl, n7, hc⟩ := hc
    refine ss_cons (sn_set 1 nd_w_word (se_join (se_str ⟨_, rfl, SE.sb (SL.se (sl_lc 2 rfl nd_w_word (si_range1 (V.b _ (by decide +kernel)) (sa_cons (se_add (SE.sb (se_int (SE.sb (se_call h1 (hr.mono (by decide)) (sa_cons (se_va 0 (sa_cons (se_int (sa_nil ?_))))))))))))))⟩)))
    refine ⟨_, _, rfl, 6, rfl, rfl, by decide, by decide, by show 1 ≤ n; omega, fun i i0 i6 => ⟨_, .int, sa_nil ⟨_, rfl, by omega, ?_⟩⟩⟩
    refine ⟨by rw [rngD_length]; omega, fun k m acc => k ≤ (1 + i).toNat ∧ m + k = n - 1 ∧ ∃ cs : List Nat, acc = (cs.map signS).map D.str ∧ cs.length = k ∧ ∀ c ∈ cs, c ∈ letters.cps.toList, ⟨Nat.zero_le _, rfl, [], rfl, rfl, fun _ h => (nomatch h)⟩, fun k d m acc γ W' hd hJ hg s Hb C cl fp => ?_, fun m acc hJ => ?_⟩
    · obtain ⟨hk, hm, cs, ea, lc, hcs⟩ := hJ
      have kl : k < (1 + i).toNat := by
        have := (List.getElem?_eq_some_iff.mp hd).1
        rw [rngD_length] at this
        exact this
      refine se_call h2 (hr.mono (by decide)) (sa_cons (se_va 0 (sa_cons (se_str (sa_nil ?_)))))
      refine ⟨_, _, rfl, rfl, by show 1 ≤ m; omega, .inr ⟨letters, rfl, by decide +kernel, by decide +kernel, fun c hcl => ⟨kl, ?_, cs ++ [c], ?_, ?_, ?_⟩⟩⟩
      · show m - 1 + (k + 1) = n - 1
        omega
      · rw [ea, List.map_append, List.map_append]
        rfl
      · rw [List.length_append, lc]
        rfl
      · intro x hx
        rcases List.mem_append.mp hx with z | z
        · exact hcs x z
        · have e : x = c := by simpa using z
          rw [e]
          exact hcl
    · obtain ⟨hk, hm, cs, ea, lc, hcs⟩ := hJ
      rw [rngD_length] at lc hk hm
      have e0 : Str.ofString "" = Str.empty := by decide +kernel
      have lw : (Txt.join Str.empty (cs.map signS)).length = cs.length := by
        have := congrArg List.length (join_signs cs)
        rw [Array.length_toList] at this
        exact this
      refine ⟨cs.map signS, by rw [ea], ?_, ?_⟩
      · rw [List.length_map, List.map_map]
        have e1 : (cs.map ((fun x : Str => x.length) ∘ signS)).sum = cs.length := by
          clear lw ea hcs lc
          induction cs with
          | nil => rfl
          | cons c cs ih =>
            rw [List.map_cons, List.sum_cons, ih, List.length_cons]
            show 1 + cs.length = _
            omega
        have e2 : (Str.ofString "").length = 0 := by decide +kernel
        rw [e1, e2]
        omega
      rw [e0]
      refine ss_cons (sn_ret (se_ifE (st_cmp (sc_notinF (sb_nm 1 (SE.sb (se_tup (sa_cons (se_str (sa_cons (se_str (sa_cons (se_str (sa_nil ?_))))))))))))))
      refine ⟨by decide, _, .inr rfl, rfl, rfl, ?_⟩
      have ea := any_str [Str.ofString "out", Str.ofString "start", Str.ofString "other"] (Txt.join Str.empty (cs.map signS))
      have ea' : (!([D.str "out", .str "start", .str "other"].any fun z => eqD z (.str (Txt.join Str.empty (cs.map signS))))) = !decide (Txt.join Str.empty (cs.map signS) ∈ ([Str.ofString "out", Str.ofString "start", Str.ofString "other"] : List Str)) := congrArg (! ·) ea
      rw [ea']
      by_cases q : Txt.join Str.empty (cs.map signS) ∈ ([Str.ofString "out", Str.ofString "start", Str.ofString "other"] : List Str)
      · rw [decide_eq_true q]
        refine se_head (se_va 1 ⟨_, rfl, ?_, se_int ⟨_, rfl, hc _ _ (wok_cut q) ?_⟩⟩)
        · rw [lw, sizeLine_eq]
          omega
        · show n ≤ m + 7
          omega
      · rw [decide_eq_false q]
        refine se_va 1 (hc _ _ ⟨?_, ?_, ?_, q⟩ ?_)
        · rw [lw]
          omega
        · rw [lw]
          omega
        · rw [join_signs]
          exact hcs
        · show n ≤ m + 7
          omega
end
end Sk
set_option maxHeartbeats 4000000
/-! F11: words, spots, what is seen. -/
namespace Sk
open PySem PySem.Spec PyProof.Rows L2
section
variable {P : Program} {w : World} {K : PySem.W.Frag} {mg : Str → Option Value} {base : Heap} {cP cT : Addr}
def ct_w_spots : CT := c2 fun n a0 a1 Kp => ∃ l : Int, a0 = .int 1 ∧ a1 = .int l ∧ 0 ≤ l ∧ l ≤ 100 ∧ Kp n (.lst ((tms l).map fun t => rowD [t]))
theorem sc_w_spots : FnScope ["_law_width", "_law_top", "_law_found", "_law_spot", "_law_longer", "_law_beat", "_law_tick"] ["_law_width", "_law_top"] (defScope (topS 61)) := ⟨rfl, rfl, rfl, by decide +kernel, rfl, by decide +kernel, by decide +kernel⟩
theorem nd_w_spots : List.Nodup (["_law_width", "_law_top", "_law_found", "_law_spot", "_law_longer", "_law_beat", "_law_tick"] : List Str) := by decide +kernel
theorem d_w_spots (V : Ev K mg cP cT) (h1 : DefOk P w K mg base "_law_ticks" 2 ["_law_top"] ct_w_ticks) : DefOk P w K mg base "_law_spots" 4 ["_law_width", "_law_top"] ct_w_spots := by
  obtain ⟨f, fd, F, hm⟩ := V.t (tn "_law_spots" 61) (by decide +kernel)
  refine def_ok F hm (F.binds (ps := ["_law_width", "_law_top"]) fun _ _ _ _ _ _ us hl => match us, hl with | [_, _], _ => rfl) sc_w_spots (fun n ds Kp hc => ?_) (fun cdv A outer s H E W n ds Kp hr hc => ?_)
  · obtain ⟨_, _, rfl, _⟩ := hc
    rfl
  · obtain ⟨a0, a1, rfl, l, rfl, rfl, l0, l1, hc⟩ := hc
    refine ss_cons (sn_set 2 nd_w_spots (se_lst (sa_cons (se_tup (sa_nil ⟨nil_le, sa_nil ⟨one_le, ?_⟩⟩)))))
    refine ss_cons (sn_for1 .never rfl (si_range1 (V.b _ (by decide +kernel)) (sa_cons (se_va 0 (sa_nil ?_)))))
    refine ⟨1, rfl, by decide, _, rfl, fun γ => sg_nm 3 ?_ nd_w_spots⟩
    refine ss_cons (sn_set 4 nd_w_spots (se_lst (sa_nil ⟨nil_le, ?_⟩)))
    refine ss_cons (sn_for1 .never rfl (si_list (se_va 2 ?_)))
    refine ⟨_, rfl, _, rfl, fun γ' => sg_nm 5 ?_ nd_w_spots⟩
    refine ss_cons (sn_set 4 nd_w_spots (se_add (sb_nm 4 (SE.sb (SL.se (sl_lcM (α := T) 6 rfl nd_w_spots (si_list (se_call h1 (hr.mono (by decide)) (sa_cons (se_va 1 (sa_nil ?_)))))))))))
    refine ⟨_, rfl, l, rfl, l0, by omega, _, rfl, tms l, tD, fun t => rowD [t], rfl, by rw [tms_len]; omega, fun t ht γ W' hg s Hb C cl fp Kq hq => ?_, _, .lst ?_, ?_⟩
    · have hq : Kq n (.tup [tD t]) := hq
      refine se_add (sb_nm 5 (SE.sb (se_tup (sa_cons (se_va 6 (sa_nil ⟨one_le, .tup [tD t], .tup (xs := []) (ys := [tD t]) ?_, hq⟩))))))
      show 0 + 1 ≤ sizeLine
      decide
    · rw [List.length_map, tms_len, sizeLine_eq, List.length_nil]
      omega
    refine ss_nil ⟨rfl, ss_cons (sn_set 2 nd_w_spots (se_va 4 (ss_nil ⟨rfl, ss_cons (sn_ret (se_va 2 hc))⟩)))⟩
def ct_w_seen : CT := c2 fun n a0 a1 Kp => ∃ (t : T) (m : Int), a0 = rowD [t] ∧ a1 = .int m ∧ Kp n (rowD [seenU (some m) t])
theorem sc_w_seen : FnScope ["_law_beat", "_law_tick", "_law_spot"] ["_law_beat", "_law_tick"] (defScope (topS 63)) := ⟨rfl, rfl, rfl, by decide +kernel, rfl, by decide +kernel, by decide +kernel⟩
theorem nd_w_seen : List.Nodup (["_law_beat", "_law_tick", "_law_spot"] : List Str) := by decide +kernel
theorem d_w_seen (V : Ev K mg cP cT) (h1 : DefOk P w K mg base "_law_place" 2 ["_law_tick"] ct_w_place) : DefOk P w K mg base "_law_seen" 4 ["_law_beat", "_law_tick"] ct_w_seen := by
  obtain ⟨f, fd, F, hm⟩ := V.t (tn "_law_seen" 63) (by decide +kernel)
  refine def_ok F hm (F.binds (ps := ["_law_beat", "_law_tick"]) fun _ _ _ _ _ _ us hl => match us, hl with | [_, _], _ => rfl) sc_w_seen (fun n ds Kp hc => ?_) (fun cdv A outer s H E W n ds Kp hr hc => ?_)
  · obtain ⟨_, _, rfl, _⟩ := hc
    rfl
  · obtain ⟨a0, a1, rfl, t, m, rfl, rfl, hc⟩ := hc
    refine ss_cons (sn_ret (se_tuple (V.b _ (by decide +kernel)) (SE.sb (SL.se (sl_lcM (α := T) 2 rfl nd_w_seen (si_tup (se_va 0 ?_)))))))
    refine ⟨_, rfl, [t], tD, fun t => tD (seenU (some m) t), rfl, by simp, fun t ht γ W' hg s Hb C cl fp Kq hq => ?_, _, .inl rfl, hc⟩
    refine se_ifE (SW.st (sw_and (st_cmp (sc_isnot (sb_nm 2 ?_)))))
    cases t with
    | none => exact se_non hq
    | some i =>
      have hq : Kq n (tD (seenU (some m) (some i))) := hq
      refine sw_one (st_cmp (sc_le (SE.sb (se_call h1 (hr.mono (by decide)) (sa_cons (se_va 2 (sa_nil ?_)))))))
      refine ⟨_, rfl, some i, rfl, SE.sb (se_call h1 (hr.mono (by decide)) (sa_cons (se_va 1 (sa_nil ?_))))⟩
      refine ⟨_, rfl, some m, rfl, _, _, rfl, rfl, ?_⟩
      by_cases q : i ≤ m
      · rw [if_pos (show decide (place (some i) ≤ place (some m)) = true from decide_eq_true q)]
        have e : seenU (some m) (some i) = some i := if_neg (by omega)
        rw [e] at hq
        exact se_va 2 hq
      · rw [if_neg (by rw [show decide (place (some i) ≤ place (some m)) = false from decide_eq_false q]; exact Bool.false_ne_true)]
        have e : seenU (some m) (some i) = none := if_pos (by omega)
        rw [e] at hq
        exact se_non hq
def ct_w_words : CT := c2 fun n a0 a1 Kp => a0 = .src ∧ a1 = .int 1 ∧ 7 ≤ n ∧ ∀ w n', WOk w → n ≤ n' + 7 → Kp n' (.lst [.str w])
theorem sc_w_words : FnScope ["_law_state", "_law_many", "_law_found", "_law_word_here", "_law_spares", "_law_spare", "_law_sign"] ["_law_state", "_law_many"] (defScope (topS 59)) := ⟨rfl, rfl, rfl, by decide +kernel, rfl, by decide +kernel, by decide +kernel⟩
theorem nd_w_words : List.Nodup (["_law_state", "_law_many", "_law_found", "_law_word_here", "_law_spares", "_law_spare", "_law_sign"] : List Str) := by decide +kernel
theorem d_w_words (V : Ev K mg cP cT) (h1 : DefOk P w K mg base "_law_word" 6 ["_law_state"] ct_w_word) : DefOk P w K mg base "_law_words" 8 ["_law_state", "_law_many"] ct_w_words := by
  obtain ⟨f, fd, F, hm⟩ := V.t (tn "_law_words" 59) (by decide +kernel)
  refine def_ok F hm (F.binds (ps := ["_law_state", "_law_many"]) fun _ _ _ _ _ _ us hl => match us, hl with | [_, _], _ => rfl) sc_w_words (fun n ds Kp hc => ?_) (fun cdv A outer s H E W n ds Kp hr hc => ?_)
  · obtain ⟨_, _, rfl, _⟩ := hc
    rfl
  · obtain ⟨a0, a1, rfl, rfl, rfl, n7, hc⟩ := hc
    refine ss_cons (sn_own 2 nd_w_words (sf_lst (sa_nil ⟨nil_le, ?_⟩)))
    refine ss_cons (sn_while .never (fun ρ' => (ρ' = ⟨n, [.va .src, .va (.int 1), .ow (.lst []), .un, .un, .un, .un], []⟩) ∨ ∃ w n' x y z u, WOk w ∧ n ≤ n' + 7 ∧ ρ' = ⟨n', [.va .src, .va (.int 1), .ow (.lst [.str w]), x, y, z, u], []⟩) (fun ρ' => match ρ'.s[2]? with | some (Sl.ow (D.lst [])) => 1 | _ => 0) (.inl rfl) fun ρ' hJ => ?_)
    rcases hJ with rfl | ⟨w, n', x, y, z, u, wok, hn, rfl⟩
    · refine st_cmp (sc_lt (SE.sb (se_len (V.b _ (by decide +kernel)) (sb_nm 2 ?_))))
      refine ⟨0, rfl, sb_nm 1 ⟨_, _, rfl, rfl, ?_⟩⟩
      refine ss_cons (sn_set 3 nd_w_words (se_call h1 (hr.mono (by decide)) (sa_cons (se_va 0 (sa_nil ?_)))))
      refine ⟨_, rfl, rfl, n7, fun w n' wok hn => ?_⟩
      refine ss_cons (sn_setLc 4 (sl_lcF (α := Nat) 5 rfl nd_w_words (si_list (SL.se (sl_lcM (α := Nat) 6 rfl nd_w_words (si_str (se_str ?_)))))))
      refine ⟨_, rfl, (Str.ofString "abcdefghijkl").cps.toList, fun c => .str (signS c), fun c => .str (Str.ofString "qxj" ++ signS c), rfl, by decide +kernel, fun c hcm γ W' hg s Hb C cl fp Kq hq => ?_, _, rfl, (Str.ofString "abcdefghijkl").cps.toList, fun c => .str (Str.ofString "qxj" ++ signS c), fun c => .str (Str.ofString "qxj" ++ signS c), fun _ => true, rfl, by decide +kernel, fun c hcm γ W' hg s Hb C cl fp Kq hq => ?_, fun c hcm _ γ W' hg s Hb C cl fp Kq hq => se_va 5 hq, ?_⟩
      · refine se_add (SE.sb (se_str (sb_nm 6 ⟨_, .str ?_, hq⟩)))
        show (Str.ofString "qxj").length + 1 ≤ sizeLine
        decide +kernel
      · refine st_cmp (sc_notinF (sb_nm 5 (sb_nm 2 ?_)))
        exact ⟨[], .inl rfl, rfl, rfl, hq⟩
      refine ss_cons (sn_append 2 (se_ifE (st_cmp (sc_notinF (sb_nm 3 (sb_nm 2 ?_))))))
      refine ⟨[], .inl rfl, rfl, rfl, ?_⟩
      refine se_va 3 ⟨by decide, ss_nil ⟨.inr ⟨w, n', _, _, _, _, wok, hn, rfl⟩, (show (0 : Nat) < 1 by decide)⟩⟩
    · refine st_cmp (sc_lt (SE.sb (se_len (V.b _ (by decide +kernel)) (sb_nm 2 ?_))))
      refine ⟨1, rfl, sb_nm 1 ⟨_, _, rfl, rfl, ?_⟩⟩
      exact ss_freeze 2 (ss_cons (sn_ret (se_va 2 (hc w n' wok hn))))
end
end Sk
set_option maxHeartbeats 4000000
/-! F12: worlds. -/
namespace Sk
open PySem PySem.Spec PyProof.Rows L2
def worldD (w : Str) (l a b s : Int) : D := .dct [.str "words", .str "top", .str "waits", .str "slack"] [.lst [.str w], .int l, .dct [.str w] [pairD a b], .int s]
section
variable {P : Program} {w : World} {K : PySem.W.Frag} {mg : Str → Option Value} {base : Heap} {cP cT : Addr}
def ct_w_world : CT := c5 fun n a0 a1 a2 a3 a4 Kp => ∃ l s : Int, a0 = .src ∧ a1 = .int 1 ∧ a2 = .int l ∧ a3 = .int 2 ∧ a4 = .int s ∧ 1 ≤ l ∧ l ≤ 8 ∧ 10 ≤ n ∧ ∀ w a b n', WOk w → 0 ≤ a → a ≤ 2 → a ≤ b → b ≤ l + 1 → n ≤ n' + 10 → Kp n' (worldD w l a b s)
theorem sc_w_world : FnScope ["_law_state", "_law_width", "_law_top", "_law_late", "_law_slack", "_law_words_here", "_law_waits", "_law_word_here", "_law_least"] ["_law_state", "_law_width", "_law_top", "_law_late", "_law_slack"] (defScope (topS 64)) := ⟨rfl, rfl, rfl, by decide +kernel, rfl, by decide +kernel, by decide +kernel⟩
theorem nd_w_world : List.Nodup (["_law_state", "_law_width", "_law_top", "_law_late", "_law_slack", "_law_words_here", "_law_waits", "_law_word_here", "_law_least"] : List Str) := by decide +kernel
theorem d_w_world (V : Ev K mg cP cT) (h1 : DefOk P w K mg base "_law_words" 8 ["_law_state", "_law_many"] ct_w_words) (h2 : DefOk P w K mg base "_law_draw" 2 ["_law_state", "_law_many"] ct_w_draw) (h3 : DefOk P w K mg base "_law_pick" 4 ["_law_state", "_law_several"] ct_w_pick) : DefOk P w K mg base "_law_world" 10 ["_law_state", "_law_width", "_law_top", "_law_late", "_law_slack"] ct_w_world := by
  obtain ⟨f, fd, F, hm⟩ := V.t (tn "_law_world" 64) (by decide +kernel)
  refine def_ok F hm (F.binds (ps := ["_law_state", "_law_width", "_law_top", "_law_late", "_law_slack"]) fun _ _ _ _ _ _ us hl => match us, hl with | [_, _, _, _, _], _ => rfl) sc_w_world (fun n ds Kp hc => ?_) (fun cdv A outer s H E W n ds Kp hr hc => ?_)
  · obtain ⟨_, _, _, _, _, rfl, _⟩ := hc
    rfl
  · obtain ⟨a0, a1, a2, a3, a4, rfl, l, sl, rfl, rfl, rfl, rfl, rfl, l1, l2, n10, hc⟩ := hc
    refine ss_cons (sn_parVF 5 6 rfl nd_w_world (by decide) (SF.se (sf_sorted1 (V.b _ (by decide +kernel)) (SE.sb (se_call h1 (hr.mono (by decide)) (sa_cons (se_va 0 (sa_cons (se_va 1 (sa_nil ?_))))))))))
    refine ⟨_, _, rfl, rfl, rfl, by show 7 ≤ n; omega, fun w n1 wok hn1 => ⟨_, rfl, sf_dict0 ?_⟩⟩
    have hn1 : n ≤ n1 + 7 := hn1
    refine ss_cons (sn_for1 .never rfl (si_list (se_va 5 ?_)))
    refine ⟨_, rfl, _, rfl, fun γ => sg_nm 7 ?_ nd_w_world⟩
    refine ss_cons (sn_set 8 nd_w_world (se_call h2 (hr.mono (by decide)) (sa_cons (se_va 0 (sa_cons (se_add (sb_nm 3 (SE.sb (se_int ?_)))))))))
    refine ⟨_, .int, sa_nil ⟨_, _, rfl, 3, rfl, rfl, by decide, by decide, by show 1 ≤ n1; omega, fun a a0 a3 => ?_⟩⟩
    refine ss_cons (sn_dset 6 (u9 hr) (se_tup (sa_cons (se_va 8 (sa_cons (se_min (V.b _ (by decide +kernel)) rfl (SE.sb (se_add (sb_nm 2 (SE.sb (se_int ?_)))))))))))
    refine ⟨_, .int, SE.sb (se_add (sb_nm 8 (SE.sb (se_call h3 (hr.mono (by decide)) (sa_cons (se_va 0 (sa_cons (se_lst (sa_cons (se_int (sa_cons (se_int (sa_cons (se_int (sa_cons (se_call h2 (hr.mono (by decide)) (sa_cons (se_va 0 (sa_cons (se_add (sb_nm 3 (SE.sb (se_int ?_)))))))))))))))))))))))⟩
    refine ⟨_, .int, sa_nil ⟨_, _, rfl, 3, rfl, rfl, by decide, by decide, by show 1 ≤ n1 - 1; omega, fun x x0 x3 => sa_nil ⟨Nat.le_of_ble_eq_true rfl, sa_nil ⟨_, _, rfl, rfl, by show 1 ≤ n1 - 1 - 1; omega, .inl ⟨_, rfl, Nat.le_of_ble_eq_true rfl, Nat.le_of_ble_eq_true rfl, fun d hd => ?_⟩⟩⟩⟩⟩
    have hd' : ∃ y : Int, d = .int y ∧ 0 ≤ y := by
      have z : d = .int 0 ∨ d = .int 0 ∨ d = .int 1 ∨ d = .int x := by simpa using hd
      rcases z with z | z | z | z
      · exact ⟨0, z, by decide⟩
      · exact ⟨0, z, by decide⟩
      · exact ⟨1, z, by decide⟩
      · exact ⟨x, z, x0⟩
    obtain ⟨y, rfl, y0⟩ := hd'
    refine ⟨_, .int, _, _, rfl, rfl, sa_nil ⟨two_le, se_va 7 ⟨str_key w _ rfl, by decide, ss_nil ⟨rfl, ?_⟩⟩⟩⟩
    refine ss_freeze 6 (ss_cons (sn_ret (SF.se (sf_disp4 fun p => se_va 5 (se_va 2 (se_va 6 (se_va 4 ?_)))))))
    refine hc w a _ _ wok a0 (by omega) ?_ ?_ (by show n ≤ n1 - 1 - 1 - 1 + 10; omega)
    · split <;> omega
    · split <;> omega
end
end Sk
set_option maxHeartbeats 4000000
/-! F13: boards, ringings. -/
namespace Sk
open PySem PySem.Spec PyProof.Rows L2
theorem tb0 {α : Type} {p : α → Bool} {l : List α} {k : Nat} {x : α} (h : l[k]? = some x) (e : (l.take k).all p = true) (ex : p x = true) : (l.take (k + 1)).all p = true := by
  rw [List.take_add_one, h, List.all_append, e]
  simp [ex]
theorem tb1 {α : Type} {p : α → Bool} {l : List α} {k : Nat} {x : α} (h : l[k]? = some x) (ex : p x = false) : l.all p = false := by
  rw [List.all_eq_false]
  exact ⟨x, List.mem_of_getElem? h, by rw [ex]; exact Bool.false_ne_true⟩
theorem tb2 {α : Type} {p : α → Bool} {l : List α} {k : Nat} {x : α} (h : l[k]? = some x) (e : (l.take k).any p = false) (ex : p x = false) : (l.take (k + 1)).any p = false := by
  rw [List.take_add_one, h, List.any_append, e]
  simp [ex]
theorem tb3 {α : Type} {p : α → Bool} {l : List α} {k : Nat} {x : α} (h : l[k]? = some x) (ex : p x = true) : l.any p = true := by
  rw [List.any_eq_true]
  exact ⟨x, List.mem_of_getElem? h, ex⟩
theorem get_map {α β : Type} {f : α → β} {l : List α} {k : Nat} {d : β} (h : (l.map f)[k]? = some d) : ∃ x, l[k]? = some x ∧ d = f x := by
  rw [List.getElem?_map] at h
  cases e : l[k]? with
  | none => rw [e] at h; cases h
  | some x =>
    rw [e] at h
    exact ⟨x, rfl, (Option.some.inj h).symm⟩
/-- a row of one time -/
def rw1 (t : T) : D := rowD [t]
theorem rw1_cod : Cod rw1 := ⟨fun a b h => by
  have h' : NestedKey.tup [(tD a).nk] = NestedKey.tup [(tD b).nk] := h
  injection h' with h1
  injection h1 with h2
  exact tD_cod.inj a b h2⟩
theorem rw1_key (t : T) : (rw1 t).isK = true ∧ (rw1 t).nk.depth ≤ 8 ∧ (rw1 t).leaf = false := by
  cases t with
  | none => exact ⟨rfl, by decide, rfl⟩
  | some i => exact ⟨rfl, by simp [rw1, rowD, tD, D.nk, nkL, NestedKey.depth, NestedKey.depthAll], rfl⟩
theorem rw1_kok {ks : List T} {k : T} : KOk (ks.map rw1) (rw1 k) := by
  refine ⟨(rw1_key k).1, (rw1_key k).2.1, .inr fun x hx => ?_⟩
  obtain ⟨t, _, rfl⟩ := List.mem_map.mp hx
  rw [(rw1_key t).2.2, (rw1_key k).2.2]
/-- what is answered, row by row -/
def ledD (f : TD T) : D := .dct (f.1.map rw1) (f.2.map tD)
structure LedOk (l : Int) (f : TD T) : Prop where
  len : f.1.length = f.2.length
  few : f.1.length ≤ 1000
  all : ∀ t, okS l t → ∃ v, aget f.1 f.2 t = some v
theorem wk (x : Str) (h : x ∈ ([Str.ofString "words", Str.ofString "top", Str.ofString "waits", Str.ofString "slack"] : List Str)) : KOk [.str "words", .str "top", .str "waits", .str "slack"] (.str x) := str_kok (ks := ["words", "top", "waits", "slack"])
theorem wg0 {a b c d : D} : dget [.str "words", .str "top", .str "waits", .str "slack"] [a, b, c, d] (.str "words") = some a := by rfl
theorem wg1 {a b c d : D} : dget [.str "words", .str "top", .str "waits", .str "slack"] [a, b, c, d] (.str "top") = some b := by rfl
theorem wg2 {a b c d : D} : dget [.str "words", .str "top", .str "waits", .str "slack"] [a, b, c, d] (.str "waits") = some c := by rfl
theorem wg3 {a b c d : D} : dget [.str "words", .str "top", .str "waits", .str "slack"] [a, b, c, d] (.str "slack") = some d := by rfl
theorem wko {x : Str} : KOk [.str "words", .str "top", .str "waits", .str "slack"] (.str x) := str_kok (ks := ["words", "top", "waits", "slack"])
def ringOf (f : TD T) (h : T) (late : Nat) : T := match (aget f.1 f.2 h).getD none with
  | none => none
  | some v => some (v + (0 + (late : Nat) : Int))
theorem ringOf_at {f : TD T} {h v : T} {i : Nat} (hv : aget f.1 f.2 h = some v) : ringOf f h i = v.map fun x => x + (0 + (i : Nat) : Int) := by
  unfold ringOf
  rw [hv]
  cases v <;> rfl
def ringK (f : TD T) (s : Nat) (ks : List T) (h : T) : List T := (List.range (s + 1)).foldl (fun ks late => aputK ks (ringOf f h late)) ks
def ringsAt (a b l : Int) (s : Nat) (f : TD T) (t : T) : List T := (hear a b l t).foldl (ringK f s) []
def rings (a b l : Int) (s : Nat) (f : TD T) : List (List T) := (tms l).map (ringsAt a b l s f)
def ringD (ks : List T) : D := .dct (ks.map tD) (ks.map fun _ => .bl true)
def ringsD (rs : List (List T)) : D := .lst (rs.map ringD)
theorem ring_put (ks : List T) (k : T) : dputV (ks.map tD) (ks.map fun _ => .bl true) (tD k) (.bl true) = (aputK ks k).map fun _ => .bl true := by
  unfold dputV aputK
  rw [at_map tD_cod]
  cases ks.findIdx? fun x => decide (x = k) with
  | none => simp
  | some i =>
    show (ks.map fun _ => D.bl true).set i (.bl true) = ks.map fun _ => D.bl true
    apply List.ext_getElem?
    intro j
    rw [List.getElem?_set]
    by_cases e : i = j
    · subst e
      rw [if_pos rfl]
      by_cases q : i < (ks.map fun _ => D.bl true).length
      · rw [if_pos q, List.getElem?_eq_getElem q]
        simp
      · rw [if_neg q, List.getElem?_eq_none (by omega)]
    · rw [if_neg e]
theorem hear_ok {a b l : Int} {t h : T} (sm : Sm a b l) (ok : okS l t) (hh : h ∈ hear a b l t) : okS l h := by
  obtain ⟨q1, q2, q3, q4, q5⟩ := sm
  cases t with
  | none =>
    have e : h = none := by simpa [hear] using hh
    subst e
    trivial
  | some i =>
    obtain ⟨o1, o2⟩ := (show 0 ≤ i ∧ i ≤ l from ok)
    rcases List.mem_append.mp hh with z | z
    · obtain ⟨d, hd, rfl⟩ := List.mem_map.mp z
      obtain ⟨hd1, hd2⟩ := List.mem_filter.mp hd
      obtain ⟨j, hj, rfl⟩ := List.mem_map.mp hd1
      have := of_decide_eq_true hd2
      exact ⟨by omega, this⟩
    · by_cases q : l < i + b
      · rw [if_pos (decide_eq_true q)] at z
        have e : h = none := by simpa using z
        subst e
        trivial
      · rw [if_neg (by rw [decide_eq_false q]; exact Bool.false_ne_true)] at z
        cases z
theorem ringK_len (f : TD T) (s : Nat) (h : T) (ks : List T) : (ringK f s ks h).length ≤ ks.length + (s + 1) := by
  unfold ringK
  have gen : ∀ (l : List Nat) (ks : List T), (l.foldl (fun ks late => aputK ks (ringOf f h late)) ks).length ≤ ks.length + l.length := by
    intro l
    induction l with
    | nil => exact fun ks => Nat.le_refl _
    | cons x l ih =>
      intro ks
      have h1 := ih (aputK ks (ringOf f h x))
      have h2 : (aputK ks (ringOf f h x)).length ≤ ks.length + 1 := aputK_len
      rw [List.foldl_cons, List.length_cons]
      omega
  have := gen (List.range (s + 1)) ks
  rw [List.length_range] at this
  exact this
section
variable {P : Program} {w : World} {K : PySem.W.Frag} {mg : Str → Option Value} {base : Heap} {cP cT : Addr}
def ct_w_board (cP cT : Addr) : CT := c1 fun n a0 Kp => ∃ (w : Str) (l a b s : Int), a0 = worldD w l a b s ∧ WOk w ∧ 0 ≤ a ∧ a ≤ b ∧ b ≤ l + 1 ∧ 1 ≤ l ∧ l ≤ 8 ∧ 0 ≤ s ∧ s ≤ 2 ∧ Kp n (panelD cP w l a b s)
theorem sc_w_board : FnScope ["_law_world_here"] ["_law_world_here"] (defScope (topS 65)) := ⟨rfl, rfl, rfl, by decide +kernel, rfl, by decide +kernel, by decide +kernel⟩
theorem nd_w_board : List.Nodup (["_law_world_here"] : List Str) := by decide +kernel
theorem d_w_board (V : Ev K mg cP cT) (h1 : MakeOk P w K mg base "Panel" cP 10 ["self", "inputs", "length", "sight", "slip"] (ct_Panel cP cT)) : DefOk P w K mg base "_law_board" 13 ["_law_world_here"] (ct_w_board cP cT) := by
  obtain ⟨f, fd, F, hm⟩ := V.t (tn "_law_board" 65) (by decide +kernel)
  refine def_ok F hm (F.binds (ps := ["_law_world_here"]) fun _ _ _ _ _ _ us hl => match us, hl with | [_], _ => rfl) sc_w_board (fun n ds Kp hc => ?_) (fun cdv A outer s H E W n ds Kp hr hc => ?_)
  · obtain ⟨_, rfl, _⟩ := hc
    rfl
  · obtain ⟨a0, rfl, w, l, a, b, s, rfl, wok, q1, q2, q3, q4, q5, q6, q7, hc⟩ := hc
    refine ss_cons (sn_ret (SF.se (sf_make h1 (hr.mono (by decide)) (sa_cons (se_dix (u9 hr) (sb_nm 0 (se_str ?_)))))))
    refine ⟨_, _, _, rfl, wko, wg0, sa_cons (se_dix (u9 hr) (sb_nm 0 (se_str ?_)))⟩
    refine ⟨_, _, _, rfl, wko, wg1, sa_cons (se_dix (u9 hr) (sb_nm 0 (se_str ?_)))⟩
    refine ⟨_, _, _, rfl, wko, wg2, sa_cons (se_dix (u9 hr) (sb_nm 0 (se_str ?_)))⟩
    refine ⟨_, _, _, rfl, wko, wg3, sa_nil ?_⟩
    exact ⟨_, _, _, _, rfl, w, l, a, b, s, rfl, rfl, rfl, rfl, wok, q1, q2, q3, q4, q5, q6, q7, hc⟩
def ct_w_rings : CT := c2 fun n a0 a1 Kp => ∃ (w : Str) (l a b : Int) (s : Nat) (f : TD T), a0 = worldD w l a b (s : Nat) ∧ a1 = ledD f ∧ Sm a b l ∧ l ≤ 8 ∧ s ≤ 2 ∧ LedOk l f ∧ Kp n (ringsD (rings a b l s f))
theorem sc_w_rings : FnScope ["_law_world_here", "_law_led", "_law_found", "_law_tick", "_law_rings_here", "_law_come", "_law_late"] ["_law_world_here", "_law_led"] (defScope (topS 70)) := ⟨rfl, rfl, rfl, by decide +kernel, rfl, by decide +kernel, by decide +kernel⟩
theorem nd_w_rings : List.Nodup (["_law_world_here", "_law_led", "_law_found", "_law_tick", "_law_rings_here", "_law_come", "_law_late"] : List Str) := by decide +kernel
theorem d_w_rings (V : Ev K mg cP cT) (h1 : DefOk P w K mg base "_law_ticks" 2 ["_law_top"] ct_w_ticks) (h2 : DefOk P w K mg base "_law_hear" 3 ["_law_pair", "_law_top", "_law_tick"] ct_w_hear) : DefOk P w K mg base "_law_rings" 4 ["_law_world_here", "_law_led"] ct_w_rings := by
  obtain ⟨f, fd, F, hm⟩ := V.t (tn "_law_rings" 70) (by decide +kernel)
  refine def_ok F hm (F.binds (ps := ["_law_world_here", "_law_led"]) fun _ _ _ _ _ _ us hl => match us, hl with | [_, _], _ => rfl) sc_w_rings (fun n ds Kp hc => ?_) (fun cdv A outer s H E W n ds Kp hr hc => ?_)
  · obtain ⟨_, _, rfl, _⟩ := hc
    rfl
  · obtain ⟨a0, a1, rfl, w, l, a, b, s, f, rfl, rfl, sm, l8, s2, lok, hc⟩ := hc
    obtain ⟨q1, q2, q3, q4, q5⟩ := id sm
    refine ss_cons (sn_own 2 nd_w_rings (sf_lst (sa_nil ⟨nil_le, ?_⟩)))
    refine ss_cons (sn_for .never rfl (si_list (se_call h1 (hr.mono (by decide)) (sa_cons (se_dix (u9 hr) (sb_nm 0 (se_str ?_)))))))
    refine ⟨_, _, _, rfl, wko, wg1, sa_nil ⟨_, rfl, l, rfl, q4, by omega, _, rfl, ?_⟩⟩
    refine ⟨fun k m st => m = n ∧ k ≤ (tms l).length ∧ ∃ x y z u, st = [.va (worldD w l a b (s : Nat)), .va (ledD f), .ow (.lst ((((tms l).take k).map (ringsAt a b l s f)).map ringD)), x, y, z, u], ⟨rfl, Nat.zero_le _, _, _, _, _, rfl⟩, fun k d m st γ hd hJ => ?_, fun m st hJ => ?_⟩
    · obtain ⟨rfl, hk, x, y, z, u, rfl⟩ := hJ
      obtain ⟨t, et, rfl⟩ := get_map hd
      have kl : k < (tms l).length := (List.getElem?_eq_some_iff.mp et).1
      have okt := tms_ok (List.mem_of_getElem? et)
      refine sg_nm 3 ?_ nd_w_rings
      refine ss_cons (sn_own 4 nd_w_rings (sf_dict0 ?_))
      refine ss_cons (sn_for .never rfl (si_list (se_call h2 (hr.mono (by decide)) (sa_cons (se_dix (u9 hr) (SE.sb (se_dix (u9 hr) (sb_nm 0 (se_str ?_)))))))))
      refine ⟨_, _, _, rfl, wko, wg2, se_ix (SE.sb (se_dix (u9 hr) (sb_nm 0 (se_str ?_))))⟩
      refine ⟨_, _, _, rfl, wko, wg0, SE.sb (se_int ⟨_, .lst (by decide) rfl, ?_⟩)⟩
      refine ⟨_, _, pairD a b, rfl, str_kok (ks := [w]), dget_str, sa_cons (se_dix (u9 hr) (sb_nm 0 (se_str ?_)))⟩
      refine ⟨_, _, _, rfl, wko, wg1, sa_cons (se_va 3 (sa_nil ?_))⟩
      refine ⟨_, _, _, rfl, a, b, l, t, rfl, rfl, rfl, sm, okt, _, rfl, ?_⟩
      refine ⟨fun j m' st => m' = m ∧ j ≤ (hear a b l t).length ∧ ∃ ks z u, ks = ((hear a b l t).take j).foldl (ringK f s) [] ∧ ks.length ≤ j * 3 ∧ st = [.va (worldD w l a b (s : Nat)), .va (ledD f), .ow (.lst ((((tms l).take k).map (ringsAt a b l s f)).map ringD)), .va (tD t), .ow (ringD ks), z, u], ⟨rfl, Nat.zero_le _, [], _, _, rfl, Nat.zero_le _, rfl⟩, fun j d m' st γ' hd hJ => ?_, fun m' st hJ => ?_⟩
      · obtain ⟨rfl, hj, ks, z, u, eks, lks, rfl⟩ := hJ
        obtain ⟨h, eh, rfl⟩ := get_map hd
        have jl : j < (hear a b l t).length := (List.getElem?_eq_some_iff.mp eh).1
        have hl110 := hear_len (t := t) sm
        have okh := hear_ok sm okt (List.mem_of_getElem? eh)
        obtain ⟨v, hv⟩ := lok.all h okh
        have gv : dget (f.1.map rw1) (f.2.map tD) (rw1 h) = some (tD v) := by
          rw [dget_map rw1_cod, hv]
          rfl
        refine sg_nm 5 ?_ nd_w_rings
        refine ss_cons (sn_for .never rfl (si_range1 (V.b _ (by decide +kernel)) (sa_cons (se_add (SE.sb (se_dix (u9 hr) (sb_nm 0 (se_str ?_))))))))
        refine ⟨_, _, _, rfl, wko, wg3, SE.sb (se_int ⟨_, .int, sa_nil ⟨_, rfl, by omega, ?_⟩⟩)⟩
        have es : (((s : Nat) : Int) + 1).toNat = s + 1 := by omega
        rw [es]
        refine ⟨fun i m2 st => m2 = m' ∧ i ≤ s + 1 ∧ ∃ ks' u, ks' = ((List.range (s + 1)).take i).foldl (fun ks late => aputK ks (ringOf f h late)) ks ∧ ks'.length ≤ j * 3 + i ∧ st = [.va (worldD w l a b (s : Nat)), .va (ledD f), .ow (.lst ((((tms l).take k).map (ringsAt a b l s f)).map ringD)), .va (tD t), .ow (ringD ks'), .va (tD h), u], ⟨rfl, Nat.zero_le _, ks, _, rfl, lks, rfl⟩, fun i d m2 st γ2 hd hJ => ?_, fun m2 st hJ => ?_⟩
        · obtain ⟨rfl, hi, ks', u, ek, lk, rfl⟩ := hJ
          have il : i < s + 1 := by
            have := (List.getElem?_eq_some_iff.mp hd).1
            rw [rngD_length] at this
            exact this
          rw [rngD_get il] at hd
          cases hd
          have ei : (List.range (s + 1))[i]? = some i := by simp [il]
          refine sg_nm 6 ?_ nd_w_rings
          refine ss_cons (sn_dset 4 (u9 hr) (se_bl (SE.imp (K := fun n' d => n' = m2 ∧ d = tD (ringOf f h i)) ?_ fun n' d ⟨e1, e2⟩ => ?_)))
          · refine se_ifE (st_cmp (sc_is (SE.sb (se_dix (u9 hr) (sb_nm 1 (se_tup (sa_cons (se_va 5 (sa_nil ⟨one_le, ?_⟩)))))))))
            refine ⟨_, _, _, rfl, rw1_kok, gv, ?_⟩
            have er := ringOf_at (i := i) hv
            cases v with
            | none => exact se_non ⟨rfl, by rw [er]; rfl⟩
            | some x =>
              refine se_add (SE.sb (se_dix (u9 hr) (sb_nm 1 (se_tup (sa_cons (se_va 5 (sa_nil ⟨one_le, ?_⟩)))))))
              refine ⟨_, _, _, rfl, rw1_kok, gv, sb_nm 6 ⟨_, .int, rfl, ?_⟩⟩
              rw [er]
              rfl
          · subst e1 e2
            refine ⟨tD_kok, by rw [List.length_map]; omega, ss_nil ⟨rfl, rfl, il, aputK ks' (ringOf f h i), .va (.int (0 + (i : Nat))), ?_, ?_, ?_⟩⟩
            · rw [foldl_take_succ _ _ ei, ← ek]
            · have : (aputK ks' (ringOf f h i)).length ≤ ks'.length + 1 := aputK_len
              omega
            · show [Sl.va (worldD w l a b (s : Nat)), .va (ledD f), .ow (.lst ((((tms l).take k).map (ringsAt a b l s f)).map ringD)), .va (tD t), .ow (.dct (dputK (ks'.map tD) (tD (ringOf f h i))) (dputV (ks'.map tD) (ks'.map fun _ => .bl true) (tD (ringOf f h i)) (.bl true))), .va (tD h), _] = _
              rw [dputK_map tD_cod, ring_put]
              rfl
        · obtain ⟨rfl, hi, ks', u, ek, lk, rfl⟩ := hJ
          have el : (List.range (s + 1)).take (s + 1) = List.range (s + 1) := by
            rw [List.take_of_length_le]
            rw [List.length_range]
            exact Nat.le_refl _
          refine ss_nil ⟨rfl, rfl, jl, ks', _, _, ?_, ?_, rfl⟩
          · rw [foldl_take_succ _ _ eh, ← eks, ek]
            unfold ringK
            rw [rngD_length, el]
          · rw [rngD_length] at lk
            omega
      · obtain ⟨rfl, hj, ks, z, u, eks, lks, rfl⟩ := hJ
        rw [List.length_map, List.take_length] at eks
        refine ss_freeze 4 (ss_cons (sn_append 2 (se_va 4 ⟨?_, ss_nil ⟨rfl, rfl, kl, .va (tD t), .va (ringD ks), z, u, ?_⟩⟩)))
        · have tl := tms_len l
          rw [List.length_map, List.length_map, List.length_take]
          omega
        · have e1 : ringD ks = ringD (ringsAt a b l s f t) := by rw [eks]; rfl
          show [Sl.va (worldD w l a b (s : Nat)), .va (ledD f), .ow (.lst ((((tms l).take k).map (ringsAt a b l s f)).map ringD ++ [ringD ks])), .va (tD t), .va (ringD ks), z, u] = _
          rw [List.take_add_one, et, List.map_append, List.map_append, e1]
          rfl
    · obtain ⟨rfl, hk, x, y, z, u, rfl⟩ := hJ
      refine ss_freeze 2 (ss_cons (sn_ret (se_va 2 ?_)))
      rw [List.length_map, List.take_length]
      exact hc
end
end Sk
set_option maxHeartbeats 4000000
/-! F14: ringings within others. -/
namespace Sk
open PySem PySem.Spec PyProof.Rows L2
def subL (p : List T × List T) : Bool := p.1.all fun x => decide (x ∈ p.2)
def within (r1 r2 : List (List T)) : Bool := (r1.zip r2).all subL
def allServed (near far : TD T → List (List T)) (leds : List (TD T)) : Bool := leds.all fun f => (leds.map near).any fun r => within r (far f)
theorem ones_D (xs : List T) : (xs.map fun _ => D.int 1) = (xs.map fun _ => (1 : Int)).map D.int := by
  rw [List.map_map]
  rfl
theorem okE_ints (l : List Int) : (D.lst (l.map D.int)).okE = true := by
  have h1 : ∀ ts : List Int, flatL (ts.map D.int) = true := by
    intro ts
    induction ts with
    | nil => rfl
    | cons t ts ih =>
      show (true && flatL (ts.map D.int)) = true
      rw [ih]
      rfl
  have h2 : ∀ ts : List Int, PyData.canLayAll0 (pyL (ts.map D.int)) = true ∧ PyData.depthAll (pyL (ts.map D.int)) = 0 := by
    intro ts
    induction ts with
    | nil => exact ⟨rfl, rfl⟩
    | cons t ts ih =>
      refine ⟨?_, ?_⟩
      · show (true && PyData.canLayAll0 (pyL (ts.map D.int))) = true
        rw [ih.1]
        rfl
      · show max 0 (PyData.depthAll (pyL (ts.map D.int))) = 0
        rw [ih.2]
        rfl
  show (flatL (l.map D.int) && (PyData.canLayAll0 (pyL (l.map D.int)) && decide (PyData.depthAll (pyL (l.map D.int)) + 1 ≤ 64))) = true
  rw [h1, (h2 l).1, (h2 l).2]
  rfl
theorem eqD_lst0 (l : List D) : eqD (.lst l) (.lst []) = l.isEmpty := by
  cases l <;> rfl
theorem zipD_map {α β : Type} (f : α → D) (g : β → D) (xs : List α) (ys : List β) : zipD (xs.map f) (ys.map g) = (xs.zip ys).map fun p => .tup [f p.1, g p.2] := by
  unfold zipD
  rw [List.zip_map, List.map_map]
  rfl
theorem sub_filter (p : List T × List T) : (p.1.filter fun x => !decide (x ∈ p.2)).isEmpty = subL p := by
  unfold subL
  induction p.1 with
  | nil => rfl
  | cons x xs ih =>
    rw [List.filter_cons, List.all_cons]
    by_cases q : x ∈ p.2
    · rw [if_neg (by simp [q]), ih, decide_eq_true q]
      rfl
    · rw [if_pos (by simp [q]), decide_eq_false q]
      rfl
section
variable {P : Program} {w : World} {K : PySem.W.Frag} {mg : Str → Option Value} {base : Heap} {cP cT : Addr}
def ct_w_is_within : CT := c2 fun n a0 a1 Kp => ∃ r1 r2 : List (List T), a0 = ringsD r1 ∧ a1 = ringsD r2 ∧ (∀ x ∈ r1, x.length ≤ 1000) ∧ Kp n (.bl (within r1 r2))
theorem sc_w_is_within : FnScope ["_law_rings_here", "_law_more", "_law_some", "_law_others", "_law_ring"] ["_law_rings_here", "_law_more"] (defScope (topS 71)) := ⟨rfl, rfl, rfl, by decide +kernel, rfl, by decide +kernel, by decide +kernel⟩
theorem nd_w_is_within : List.Nodup (["_law_rings_here", "_law_more", "_law_some", "_law_others", "_law_ring"] : List Str) := by decide +kernel
theorem d_w_is_within (V : Ev K mg cP cT)  : DefOk P w K mg base "_law_is_within" 2 ["_law_rings_here", "_law_more"] ct_w_is_within := by
  obtain ⟨f, fd, F, hm⟩ := V.t (tn "_law_is_within" 71) (by decide +kernel)
  refine def_ok F hm (F.binds (ps := ["_law_rings_here", "_law_more"]) fun _ _ _ _ _ _ us hl => match us, hl with | [_, _], _ => rfl) sc_w_is_within (fun n ds Kp hc => ?_) (fun cdv A outer s H E W n ds Kp hr hc => ?_)
  · obtain ⟨_, _, rfl, _⟩ := hc
    rfl
  · obtain ⟨a0, a1, rfl, r1, r2, rfl, rfl, few, hc⟩ := hc
    refine ss_cons (sn_for .never rfl (si_zip (V.b _ (by decide +kernel)) (sa_cons (se_va 0 (sa_cons (se_va 1 (sa_nil ?_)))))))
    refine ⟨false, false, _, _, rfl, ?_⟩
    rw [zipD_map]
    refine ⟨fun k m s => m = n ∧ ((r1.zip r2).take k).all subL = true ∧ ∃ x y z, s = [.va (ringsD r1), .va (ringsD r2), x, y, z], ⟨rfl, rfl, _, _, _, rfl⟩, fun k d m s γ hd hJ => ?_, fun m s hJ => ?_⟩
    · obtain ⟨rfl, ha, x, y, z, rfl⟩ := hJ
      obtain ⟨p, ep, rfl⟩ := get_map hd
      have hm := List.of_mem_zip (List.mem_of_getElem? ep)
      have lp := few p.1 hm.1
      refine sg_tup2 (i := 2) (j := 3) ?_ rfl nd_w_is_within (by decide)
      refine ss_cons (sn_if (st_cmp (sc_ne hr.units (SE.sb (SL.se (sl_lcF (α := T) 4 rfl nd_w_is_within (si_dict (se_va 2 ?_))))))))
      refine ⟨_, _, rfl, p.1, tD, fun _ => .int 1, fun x => !decide (x ∈ p.2), rfl, by omega, fun t ht γ' W' hg s Hb C cl fp Kq hq => ?_, fun t ht _ γ' W' hg s Hb C cl fp Kq hq => se_int hq, ?_⟩
      · refine st_dnotin (u9 hr) (se_va 4 (sb_nm 3 ?_))
        refine ⟨_, _, rfl, tD_kok, ?_⟩
        have e1 := dget_map tD_cod (f := fun _ : T => D.bl true) (ks := p.2) (vs := p.2) (k := t)
        have e2 : (aget p.2 p.2 t).isSome = decide (t ∈ p.2) := (aget_in rfl).trans (decide_eq_decide.mpr Iff.rfl)
        rw [e1, Option.isSome_map, e2]
        exact hq
      refine SE.sb (se_lst (sa_nil ⟨nil_le, ?_, rfl, ?_⟩))
      · rw [ones_D]
        exact okE_ints _
      rw [eqD_lst0, List.isEmpty_map, sub_filter]
      cases es : subL p with
      | true =>
        refine ss_nil (ss_nil ⟨rfl, rfl, tb0 ep ha es, _, _, _, rfl⟩)
      | false =>
        have e : within r1 r2 = false := tb1 ep es
        rw [e] at hc
        exact ss_cons (sn_ret (se_bl hc))
    · obtain ⟨rfl, ha, x, y, z, rfl⟩ := hJ
      rw [List.length_map, List.take_length] at ha
      have e : within r1 r2 = true := ha
      rw [e] at hc
      exact ss_cons (sn_ret (se_bl hc))
def ct_w_is_one_within : CT := c2 fun n a0 a1 Kp => ∃ (rs : List (List (List T))) (r2 : List (List T)), a0 = .lst (rs.map ringsD) ∧ a1 = ringsD r2 ∧ (∀ r ∈ rs, ∀ x ∈ r, x.length ≤ 1000) ∧ Kp n (.bl (rs.any fun r => within r r2))
theorem sc_w_is_one_within : FnScope ["_law_mine", "_law_more", "_law_rings_here"] ["_law_mine", "_law_more"] (defScope (topS 72)) := ⟨rfl, rfl, rfl, by decide +kernel, rfl, by decide +kernel, by decide +kernel⟩
theorem nd_w_is_one_within : List.Nodup (["_law_mine", "_law_more", "_law_rings_here"] : List Str) := by decide +kernel
theorem d_w_is_one_within (V : Ev K mg cP cT) (h1 : DefOk P w K mg base "_law_is_within" 2 ["_law_rings_here", "_law_more"] ct_w_is_within) : DefOk P w K mg base "_law_is_one_within" 4 ["_law_mine", "_law_more"] ct_w_is_one_within := by
  obtain ⟨f, fd, F, hm⟩ := V.t (tn "_law_is_one_within" 72) (by decide +kernel)
  refine def_ok F hm (F.binds (ps := ["_law_mine", "_law_more"]) fun _ _ _ _ _ _ us hl => match us, hl with | [_, _], _ => rfl) sc_w_is_one_within (fun n ds Kp hc => ?_) (fun cdv A outer s H E W n ds Kp hr hc => ?_)
  · obtain ⟨_, _, rfl, _⟩ := hc
    rfl
  · obtain ⟨a0, a1, rfl, rs, r2, rfl, rfl, few, hc⟩ := hc
    refine ss_cons (sn_for .never rfl (si_list (se_va 0 ?_)))
    refine ⟨_, rfl, fun k m s => m = n ∧ ((rs.take k).any fun r => within r r2) = false ∧ ∃ x, s = [.va (.lst (rs.map ringsD)), .va (ringsD r2), x], ⟨rfl, rfl, _, rfl⟩, fun k d m s γ hd hJ => ?_, fun m s hJ => ?_⟩
    · obtain ⟨rfl, ha, x, rfl⟩ := hJ
      obtain ⟨r, er, rfl⟩ := get_map hd
      refine sg_nm 2 ?_ nd_w_is_one_within
      refine ss_cons (sn_if (st_val (se_call h1 (hr.mono (by decide)) (sa_cons (se_va 2 (sa_cons (se_va 1 (sa_nil ?_))))))))
      refine ⟨_, _, rfl, r, r2, rfl, rfl, few r (List.mem_of_getElem? er), _, rfl, ?_⟩
      cases ew : within r r2 with
      | true =>
        have e : (rs.any fun r => within r r2) = true := tb3 er ew
        rw [e] at hc
        exact ss_cons (sn_ret (se_bl hc))
      | false => exact ss_nil (ss_nil ⟨rfl, rfl, tb2 er ha ew, _, rfl⟩)
    · obtain ⟨rfl, ha, x, rfl⟩ := hJ
      rw [List.length_map, List.take_length] at ha
      rw [ha] at hc
      exact ss_cons (sn_ret (se_bl hc))
theorem ringK_bd (f : TD T) (s : Nat) (hs : s ≤ 2) : ∀ (hs : List T) (ks : List T), (hs.foldl (ringK f s) ks).length ≤ ks.length + 3 * hs.length
  | [], ks => Nat.le_refl _
  | h :: hl, ks => by
    have h1 := ringK_bd f s hs hl (ringK f s ks h)
    have h2 := ringK_len f s h ks
    rw [List.foldl_cons, List.length_cons]
    omega
theorem rings_few {a b l : Int} {s : Nat} {f : TD T} (sm : Sm a b l) (hs : s ≤ 2) : ∀ x ∈ rings a b l s f, x.length ≤ 1000 := fun x hx => by
  obtain ⟨t, _, rfl⟩ := List.mem_map.mp hx
  have h1 := ringK_bd f s hs (hear a b l t) []
  have h2 := hear_len (t := t) sm
  unfold ringsAt
  rw [List.length_nil] at h1
  omega
def ct_w_all_served : CT := c3 fun n a0 a1 a2 Kp => ∃ (w : Str) (l a b c d : Int) (s s' : Nat) (leds : List (TD T)), a0 = worldD w l a b (s : Nat) ∧ a1 = worldD w l c d (s' : Nat) ∧ a2 = .lst (leds.map ledD) ∧ Sm a b l ∧ Sm c d l ∧ l ≤ 8 ∧ s ≤ 2 ∧ s' ≤ 2 ∧ leds.length ≤ 1000 ∧ (∀ f ∈ leds, LedOk l f) ∧ Kp n (.bl (allServed (rings a b l s) (rings c d l s') leds))
theorem sc_w_all_served : FnScope ["_law_near", "_law_far", "_law_leds", "_law_mine", "_law_led"] ["_law_near", "_law_far", "_law_leds"] (defScope (topS 73)) := ⟨rfl, rfl, rfl, by decide +kernel, rfl, by decide +kernel, by decide +kernel⟩
theorem nd_w_all_served : List.Nodup (["_law_near", "_law_far", "_law_leds", "_law_mine", "_law_led"] : List Str) := by decide +kernel
theorem d_w_all_served (V : Ev K mg cP cT) (h1 : DefOk P w K mg base "_law_rings" 4 ["_law_world_here", "_law_led"] ct_w_rings) (h2 : DefOk P w K mg base "_law_is_one_within" 4 ["_law_mine", "_law_more"] ct_w_is_one_within) : DefOk P w K mg base "_law_all_served" 6 ["_law_near", "_law_far", "_law_leds"] ct_w_all_served := by
  obtain ⟨f, fd, F, hm⟩ := V.t (tn "_law_all_served" 73) (by decide +kernel)
  refine def_ok F hm (F.binds (ps := ["_law_near", "_law_far", "_law_leds"]) fun _ _ _ _ _ _ us hl => match us, hl with | [_, _, _], _ => rfl) sc_w_all_served (fun n ds Kp hc => ?_) (fun cdv A outer s H E W n ds Kp hr hc => ?_)
  · obtain ⟨_, _, _, rfl, _⟩ := hc
    rfl
  · obtain ⟨a0, a1, a2, rfl, w, l, a, b, c, d, s, s', leds, rfl, rfl, rfl, sm, sm2, l8, s2, s2', few, lok, hc⟩ := hc
    refine ss_cons (sn_setLc 3 (sl_lcM (α := TD T) 4 rfl nd_w_all_served (si_list (se_va 2 ?_))))
    refine ⟨_, rfl, leds, ledD, fun f => ringsD (rings a b l s f), rfl, by omega, fun f hf γ W' hg st Hb C cl fp Kq hq => ?_, ?_⟩
    · exact se_call h1 (hr.mono (by decide)) (sa_cons (se_va 0 (sa_cons (se_va 4 (sa_nil ⟨_, _, rfl, w, l, a, b, s, f, rfl, rfl, sm, l8, s2, lok f hf, hq⟩)))))
    have em : (leds.map fun f => ringsD (rings a b l s f)) = (leds.map (rings a b l s)).map ringsD := by
      rw [List.map_map]
      rfl
    rw [em]
    refine ss_cons (sn_for .never rfl (si_list (se_va 2 ?_)))
    refine ⟨_, rfl, fun k m st => m = n ∧ ((leds.take k).all fun f => (leds.map (rings a b l s)).any fun r => within r (rings c d l s' f)) = true ∧ ∃ x, st = [.va (worldD w l a b (s : Nat)), .va (worldD w l c d (s' : Nat)), .va (.lst (leds.map ledD)), .va (.lst ((leds.map (rings a b l s)).map ringsD)), x], ⟨rfl, rfl, _, rfl⟩, fun k d' m st γ hd hJ => ?_, fun m st hJ => ?_⟩
    · obtain ⟨rfl, ha, x, rfl⟩ := hJ
      obtain ⟨f, ef, rfl⟩ := get_map hd
      refine sg_nm 4 ?_ nd_w_all_served
      refine ss_cons (sn_if (st_not (st_val (se_call h2 (hr.mono (by decide)) (sa_cons (se_va 3 (sa_cons (se_call h1 (hr.mono (by decide)) (sa_cons (se_va 1 (sa_cons (se_va 4 (sa_nil ?_)))))))))))))
      refine ⟨_, _, rfl, w, l, c, d, s', f, rfl, rfl, sm2, l8, s2', lok f (List.mem_of_getElem? ef), sa_nil ?_⟩
      refine ⟨_, _, rfl, leds.map (rings a b l s), rings c d l s' f, rfl, rfl, fun r hr => ?_, _, rfl, ?_⟩
      · obtain ⟨g, _, rfl⟩ := List.mem_map.mp hr
        exact rings_few sm s2
      cases ew : (leds.map (rings a b l s)).any fun r => within r (rings c d l s' f) with
      | true => exact ss_nil (ss_nil ⟨rfl, rfl, tb0 ef ha ew, _, rfl⟩)
      | false =>
        have e : allServed (rings a b l s) (rings c d l s') leds = false := tb1 ef ew
        rw [e] at hc
        exact ss_cons (sn_ret (se_bl hc))
    · obtain ⟨rfl, ha, x, rfl⟩ := hJ
      rw [List.length_map, List.take_length] at ha
      have e : allServed (rings a b l s) (rings c d l s') leds = true := ha
      rw [e] at hc
      exact ss_cons (sn_ret (se_bl hc))
end
end Sk
set_option maxHeartbeats 4000000
/-! S29: comprehensions of two names. -/
namespace Sk
open PySem PySem.Spec PyProof.Rows L2
section
variable {X : Cx} {W : Fm} {ρ : En} {K : Nat → D → Prop} {elt iter c : Expr} {scope : Scope} {pos p1 p2 p3 : Pos} {kk : Nat}
def LcInvG (X : Cx) (W : Fm) (ρ : En) (σ σ0 : L2.St) (s0 : List Sl) (H : Hp) (p : Addr) (γ : List (D × V)) (J : Nat → Nat → List D → Prop) (k : Nat) (H' : Hp) : Prop :=
  ∃ m acc vs, RE X.K X.w (W.blk σ ρ.s p) H' σ0 ⟨m, s0, γ⟩ ∧ SameG W.g H H' ∧ H' p = some (.lst vs) ∧
    RepL X.K X.w W.g H' (Fb (W.blk σ ρ.s p).O σ0 s0) acc vs ∧ acc.length ≤ k ∧ J k m acc
/-- the reading of a comprehension by its turns, whatever its names -/
theorem lc_readG {own : List Nat} {g : TG} {tt : TT} {te : TE} {σ : L2.St} {H H1 : Hp} {Q : VK} {n : Nat} {ds : List D} {γ : List (D × V)} {It0 : It} {J : Nat → Nat → List D → Prop} (s0 : List Sl) (r0 : RE X.K X.w W H σ ρ) (f : FolF X W ρ σ H K Q) (s1 : SameG W.g H H1) (r1 : RE X.K X.w W H1 σ ⟨n, ρ.s, γ ++ ρ.h⟩)
    (ok : ItOk X.K X.w W.g It0 γ ds) (j0 : J 0 n []) (fin : ∀ m acc, J ds.length m acc → K m (.lst acc)) (hz : ds.length ≤ 1000000)
    (no0 : ∀ (j : Nat) (d : D), s0[j]? ≠ some (.ow d)) (st0 : ∀ p, H1 p = none → RE X.K X.w (W.blk σ ρ.s p) (upd H1 p (.lst [])) (wipe σ own) ⟨n, s0, γ ++ ρ.h⟩)
    (br0 : ∀ (j : Nat) (d : D), s0[j]? = some (.br d) → (lendS ρ.s)[j]? = some (.br d) ∧ (wipe σ own)[j]? = σ[j]?)
    (turn : ∀ k d m acc p H' x (QT : V → Hp → Prop) (QF : Hp → Prop), ds[k]? = some d → J k m acc → H1 p = none → RE X.K X.w (W.blk σ ρ.s p) H' (wipe σ own) ⟨m, s0, γ ++ ρ.h⟩ → Rep X.K X.w W.g H' (Fb (W.blk σ ρ.s p).O (wipe σ own) s0) d x →
      (∀ y H4 m' dy, SameG W.g H' H4 → RE X.K X.w (W.blk σ ρ.s p) H4 (wipe σ own) ⟨m', s0, γ ++ ρ.h⟩ → Rep X.K X.w W.g H4 (Fb (W.blk σ ρ.s p).O (wipe σ own) s0) dy y → J (k + 1) m' (acc ++ [dy]) → QT y H4) →
      (∀ H4 m', SameG W.g H' H4 → RE X.K X.w (W.blk σ ρ.s p) H4 (wipe σ own) ⟨m', s0, γ ++ ρ.h⟩ → J (k + 1) m' acc → QF H4) →
      g x (wipe σ own) H' fun σ2 H2 => wipe σ2 own = wipe σ own ∧ tt σ2 H2 fun b H3 => if b = true then te σ2 H3 fun y H4 => QT y H4 else QF H3) (p : Addr) (hp : H1 p = none) :
    ∃ W' : Nat → Nat → Hp → Prop, (∃ m, W' 0 m (upd H1 p (.lst []))) ∧ ∀ k m H, W' k m H →
      (It0.stop k H ∧ Q (.ref p) H) ∨ (It0.go k H ∧ ∃ Nx : Hp → Prop, (∀ H', Nx H' → ∃ m', m' < m ∧ W' (k + 1) m' H') ∧ ∀ x H', It0.yld k H x H' → g x (wipe σ own) H' fun σ2 H2 => wipe σ2 own = wipe σ own ∧ tt σ2 H2 fun b H3 =>
        if b = true then te σ2 H3 fun y H4 => ∃ acc, H4 p = some (.lst acc) ∧ acc.length < sizeLine ∧ Nx (upd H4 p (.lst (acc ++ [y]))) else Nx H3) := by
  have hp0 : H p = none := by
    have z := r0.free (n := n) (r1.unhold (γ := ρ.h) fun q hq => List.mem_append_right _ hq) s1 p hp
    exact z
  have hO : p ∉ W.O := (r0.fresh0 hp0).2
  have hB : W.B p = none := (r0.fresh0 hp0).1
  have hG : NotG W.g p := r0.notG hO
  have hC : ∀ q, W.g = some q → p ≠ q.2.2.1 := fun q e z => hO (z ▸ (r0.src q e).2.2.1.1)
  have gin : ∀ q ∈ γ, q ∈ γ ++ ρ.h := fun q hq => List.mem_append_left _ hq
  refine ⟨fun k t H' => t = ds.length - k ∧ k ≤ ds.length ∧ LcInvG X W ρ σ (wipe σ own) s0 H p (γ ++ ρ.h) J k H', ⟨ds.length, by omega, Nat.zero_le _, n, [], [], st0 p hp, ?_, upd_same, rfl, Nat.le_refl _, j0⟩, ?_⟩
  · exact s1.trans (.of (same_new hp))
  rintro k t H' ⟨rfl, hk, m, acc, vs, r2, s2, q2, l2, hl, j⟩
  by_cases hlt : k < ds.length
  · refine .inr ⟨ok.go (W.blk σ ρ.s p) H' _ _ k rfl r2 gin hlt, fun H2 => LcInvG X W ρ σ (wipe σ own) s0 H p (γ ++ ρ.h) J (k + 1) H2, fun H2 h2 => ⟨ds.length - (k + 1), by omega, rfl, hlt, h2⟩, fun x H2 hy => ?_⟩
    obtain ⟨sm, hr⟩ := ok.yld (W.blk σ ρ.s p) H' _ _ k x H2 _ rfl r2 gin (List.getElem?_eq_getElem hlt) hy
    have r3 := r2.stay sm
    have q3 : H2 p = some (.lst vs) := sm _ _ q2
    have l3 := r2.repL' (.of sm) l2
    have fb1 : ∀ {σ' : L2.St} {b : Addr}, Fb (W.blk σ ρ.s p).O σ' s0 b ↔ b ∈ (W.blk σ ρ.s p).O := fun {σ' b} => blk_fb no0
    refine turn k _ m acc p H2 x (fun y H4 => ∃ acc, H4 p = some (.lst acc) ∧ acc.length < sizeLine ∧ LcInvG X W ρ σ (wipe σ own) s0 H p (γ ++ ρ.h) J (k + 1) (upd H4 p (.lst (acc ++ [y])))) (fun H3 => LcInvG X W ρ σ (wipe σ own) s0 H p (γ ++ ρ.h) J (k + 1) H3) (List.getElem?_eq_getElem hlt) j hp r3 hr ?_ ?_
    · intro y H4 m' dy s4 r7 hy5 j4
      have q4 : H4 p = some (.lst vs) := s4 _ _ q3 hG
      have l4 : RepL X.K X.w W.g H4 (Fb (W.blk σ ρ.s p).O (wipe σ own) s0) acc vs := r3.repL' s4 l3
      have hbr : ∀ (j : Nat) (d : D), s0[j]? = some (.br d) → (wipe σ own)[j]? ≠ some (some (.ref p)) := fun j d e1 e2 => by
        obtain ⟨e1', e2'⟩ := br0 j d e1
        rw [e2'] at e2
        obtain ⟨l0, e3, e4⟩ := lend_get e1'
        have h := r0.slot j l0 e3
        cases l0 with
        | un => cases e4
        | va d' => cases e4
        | ow d' =>
          obtain ⟨a, e5, _, _, cc⟩ := h
          rw [e2] at e5
          cases e5
          obtain ⟨u, eu⟩ := cc.there
          rw [hp0] at eu
          cases eu
        | br d' =>
          obtain ⟨a, e5, n5, _⟩ := h
          rw [e2] at e5
          cases e5
          exact hO n5
      have lv : acc.length = vs.length := l4.length
      refine ⟨vs, q4, ?_, m', acc ++ [dy], vs ++ [y], ?_, ?_, upd_same, ?_, ?_, j4⟩
      · have : vs.length ≤ 1000000 := by omega
        exact Nat.lt_of_le_of_lt this (by decide)
      · exact r7.writeO List.mem_cons_self hG hC hB q4 hbr
      · intro a o e na
        have ne : a ≠ p := fun z => by rw [z, hp0] at e; cases e
        rw [upd_ne ne]
        exact (s2.trans ((SameG.of sm).trans s4)) a o e na
      · have kp : ∀ b u, b ≠ p → H4 b = some u → (upd H4 p (.lst (vs ++ [y]))) b = some u := fun b u n e => by rw [upd_ne n]; exact e
        refine RepL.mono (fun b ys e => kp b _ (fun z => by rw [z, q4] at e; cases e) e) (fun b ob u e => kp b _ (fun z => by rw [z, q4] at e; cases e) e) (fun b u n e => ⟨kp b u (fun z => n (fb1.mpr (z ▸ List.mem_cons_self))) e, n⟩) _ _ (l4.append ⟨y, [], rfl, hy5, rfl⟩)
      · rw [List.length_append, List.length_singleton]
        omega
    · intro H4 m' s4 r6 j4
      exact ⟨m', acc, vs, r6, s2.trans ((SameG.of sm).trans s4), s4 _ _ q3 hG, r3.repL' s4 l3, by omega, j4⟩
  · have ek : k = ds.length := by omega
    subst ek
    refine .inl ⟨ok.stop (W.blk σ ρ.s p) H' _ _ _ rfl r2 gin rfl, ?_⟩
    have src : ∀ q, W.g = some q → SrcOk X.K H' q m := fun q e => (r2.src q e).2.2.2
    refine f p H' m (.lst acc) s2 hp0 (r0.step s2 src) (r0.addAt hp0 s2 q2 src) ⟨vs, q2, ?_⟩ (fin m acc j)
    refine r2.repL (.refl W.g H') (fun b _ nb _ z => nb (.inl ?_)) (fun b n z => n (.inl z)) l2
    rcases fb_iff.mp z |> List.mem_append.mp with z | z
    · rcases List.mem_cons.mp z with z | z
      · subst z
        exact List.mem_cons_self
      · exact List.mem_cons_of_mem _ (List.mem_append_left _ z)
    · exact List.mem_cons_of_mem _ (List.mem_append_right _ z)
theorem set2_back {α : Type} {l : List α} {i j : Nat} {x y z u : α} (h : i ≠ j) : ((((((l.set j z).set i u).set i x).set j y).set j z).set i u) = (l.set j z).set i u := by
  apply List.ext_getElem?
  intro k
  simp only [List.getElem?_set, List.length_set]
  by_cases e1 : i = k
  · subst e1
    by_cases q : i < l.length <;> simp [q]
  · by_cases e2 : j = k
    · subst e2
      by_cases q : j < l.length <;> simp [q, e1]
    · simp [e1, e2]
/-- the slots of a block with two names of its own, open -/
def open2 (s : List Sl) (i j : Nat) : List Sl := ((lendS s).set j .un).set i .un
theorem open2_no {s : List Sl} {i j : Nat} (k : Nat) (d : D) : (open2 s i j)[k]? ≠ some (.ow d) := fun h => by
  unfold open2 at h
  by_cases e1 : k = i
  · subst e1
    cases (get_set_eq h).1
  · rw [get_set_ne e1] at h
    exact lend_set_no (fun _ z => by cases z) h
/-- the turns of a comprehension of two names -/
def CompT2 (X : Cx) (W : Fm) (ρ : En) (scope : Scope) (i j : Nat) (elt : Expr) (ds : List (D × D)) (J : Nat → Nat → List D → Prop) : Prop :=
  ∀ (k : Nat) (d : D × D) (m : Nat) (acc : List D) (γ : List (D × V)) (W' : Fm), ds[k]? = some d → J k m acc → W'.g = W.g → ∀ s Hb C cl fp,
    SE (Blk X scope s Hb C cl fp) W' ⟨m, ((open2 ρ.s i j).set i (.va d.1)).set j (.va d.2), γ⟩ elt fun n y => J (k + 1) n (acc ++ [y])
theorem sl_lc2 (i j : Nat) {x y : Str} (hc : X.calm = true) (hN : X.N.Nodup) (hij : i ≠ j) (h : SI X W ρ (.Tuple [.Name x p1, .Name y p2] kk p3) iter fun n ds => ∃ dd : List (D × D), ds = dd.map (fun p => .tup [p.1, p.2]) ∧ dd.length ≤ 1000000 ∧ ∃ J : Nat → Nat → List D → Prop, J 0 n [] ∧ CompT2 X W ρ scope i j elt dd J ∧ ∀ m acc, J dd.length m acc → K m (.lst acc))
    (ok : blkC X.N X.env.scope scope [(x, i), (y, j)] = true := by kernel_rfl) (hi : X.N[i]? = some x := by rfl) (hj : X.N[j]? = some y := by rfl) (hx : ∀ s Hb C cl fp, Loc (Blk X scope s Hb C cl fp).env.scope x := by intros; first | exact Or.inl rfl | exact Or.inr rfl) (hy : ∀ s Hb C cl fp, Loc (Blk X scope s Hb C cl fp).env.scope y := by intros; first | exact Or.inl rfl | exact Or.inr rfl)
    (hf : ∀ s Hb C cl fp, (Blk X scope s Hb C cl fp).fn x = true ∨ (Blk X scope s Hb C cl fp).env.scope.names.lookup x = some .local := by intros; first | exact .inl rfl | exact .inr rfl) (hf2 : ∀ s Hb C cl fp, (Blk X scope s Hb C cl fp).fn y = true ∨ (Blk X scope s Hb C cl fp).env.scope.names.lookup y = some .local := by intros; first | exact .inl rfl | exact .inr rfl)
    (hcb : ∀ s Hb C cl fp, (Blk X scope s Hb C cl fp).calm = true := by intros; rfl)
    (hs : ∀ x, foldedSetIterable iter X.env x = pure x := by intro _; rfl) : SL X W ρ (.ListComp elt [⟨.Tuple [.Name x p1, .Name y p2] kk p3, iter, [], 0⟩] scope pos) K := by
  obtain ⟨wi, pi, h⟩ := h
  refine SL.of (own := [(x, i), (y, j)]) (g := gTup X.K 2 (gCons (gName i) (gCons (gName j) gNil))) (tt := tYes) (te := tBlk X scope elt) hc hN pi (blkOk_by ok) (fun s Hb C cl fp => pg_tup (hcb s Hb C cl fp) (pgs_cons (pg_name (i := i) hN hi (hx s Hb C cl fp) (hf s Hb C cl fp)) (pgs_cons (pg_name (i := j) hN hj (hy s Hb C cl fp) (hf2 s Hb C cl fp)) pgs_nil)))
    (fun _ _ _ _ _ => pts_nil) (fun s Hb C cl fp => pe_blk s Hb C cl fp) hs fun σ H Q r f => h σ H _ r fun It0 H1 n ds γ s1 r1 ok1 ⟨dd, ed, hz, J, j0, turn, fin⟩ => ?_
  subst ed
  have lw : ∀ σ' : L2.St, wipe σ' [i, j] = (σ'.set j none).set i none := fun _ => rfl
  refine fun p hp => lc_readG (own := [i, j]) (open2 ρ.s i j) r f s1 r1 ok1 j0 (fun m acc z => fin m acc (by rw [List.length_map] at z; exact z)) (by rw [List.length_map]; exact hz) (fun k d => open2_no k d) (fun p hp => ?_) (fun k d e => ?_) (fun k d m acc p H' x QT QF hk hj hp r2 hx hT hF => ?_) p hp
  · exact ((r1.block hp).wipe1 j).wipe1 i
  · unfold open2 at e
    by_cases e1 : k = i
    · subst e1
      cases (get_set_eq e).1
    · by_cases e2 : k = j
      · subst e2
        rw [get_set_ne e1] at e
        cases (get_set_eq e).1
      · rw [get_set_ne e1, get_set_ne e2] at e
        exact ⟨e, by rw [lw, get_set_ne e1, get_set_ne e2]⟩
  · rw [List.getElem?_map] at hk
    cases ek : dd[k]? with
    | none => rw [ek] at hk; cases hk
    | some dp =>
      rw [ek] at hk
      have ed : D.tup [dp.1, dp.2] = d := Option.some.inj hk
      subst ed
      obtain ⟨a, vs, e, q, v1, t1, e1, h1, v2, t2, e2, h2, e3⟩ := hx
      have e3' : t2 = [] := e3
      subst e e1 e2 e3'
      refine ⟨a, [v1, v2], rfl, q, rfl, v1, [v2], rfl, v2, [], rfl, rfl, ?_, ?_⟩
      · rw [lw, lw]
        exact set2_back hij
      · unfold tYes
        dsimp only
        rw [if_pos rfl]
        have r3 := r2.setVa i h1
        have fb1 : ∀ {σ' : L2.St} {b : Addr}, Fb (W.blk σ ρ.s p).O σ' (open2 ρ.s i j) b ↔ b ∈ (W.blk σ ρ.s p).O := fun {σ' b} => blk_fb fun k d => open2_no k d
        have no1 : ∀ (k : Nat) (d : D), ((open2 ρ.s i j).set i (.va dp.1))[k]? ≠ some (.ow d) := fun k d z => by
          by_cases e1 : k = i
          · subst e1
            cases (get_set_eq z).1
          · rw [get_set_ne e1] at z
            exact open2_no k d z
        have no2 : ∀ (k : Nat) (d : D), (((open2 ρ.s i j).set i (.va dp.1)).set j (.va dp.2))[k]? ≠ some (.ow d) := fun k d z => by
          by_cases e1 : k = j
          · subst e1
            cases (get_set_eq z).1
          · rw [get_set_ne e1] at z
            exact no1 k d z
        have r4 := r3.setVa j (r2.rep (.refl W.g H') (fun b _ n _ z => n (fb1.mpr ((blk_fb no1).mp z))) (fun b n z => n (.inl z)) h2)
        refine ⟨_, _, r4, _, fun s Hb C cl fp => turn k dp m acc (γ ++ ρ.h) (W.blk σ ρ.s p) ek hj rfl s Hb C cl fp, fun v H4 m' dy s4 r5 h4 j4 => hT v H4 m' dy s4 ?_ ?_ j4⟩
        · have r6 := (r5.wipe1 j).wipe1 i
          have ea : ((((wipe σ [i, j]).set i (some v1)).set j (some v2)).set j none).set i none = wipe σ [i, j] := by
            rw [lw]
            exact set2_back hij
          have eb : ((((open2 ρ.s i j).set i (.va dp.1)).set j (.va dp.2)).set j .un).set i .un = open2 ρ.s i j := set2_back hij
          have r7 : RE X.K X.w (W.blk σ ρ.s p) H4 (((((wipe σ [i, j]).set i (some v1)).set j (some v2)).set j none).set i none) ⟨m', ((((open2 ρ.s i j).set i (.va dp.1)).set j (.va dp.2)).set j .un).set i .un, γ ++ ρ.h⟩ := r6
          rw [ea, eb] at r7
          exact r7
        · exact r5.rep (.refl W.g H4) (fun b _ n _ z => n ((blk_fb no2).mpr (fb1.mp z))) (fun b n z => n (.inl z)) h4
/-- .. that draws nothing -/
theorem sl_lc2M (i j : Nat) {x y : Str} {α : Type} (hc : X.calm = true) (hN : X.N.Nodup) (hij : i ≠ j) (h : SI X W ρ (.Tuple [.Name x p1, .Name y p2] kk p3) iter fun n ds => ∃ (xs : List α) (en : α → D × D) (f : α → D), ds = xs.map (fun y => .tup [(en y).1, (en y).2]) ∧ xs.length ≤ 1000000 ∧
      (∀ y ∈ xs, ∀ (γ : List (D × V)) (W' : Fm), W'.g = W.g → ∀ s Hb C cl fp, ∀ Kq : Nat → D → Prop, Kq n (f y) → SE (Blk X scope s Hb C cl fp) W' ⟨n, ((open2 ρ.s i j).set i (.va (en y).1)).set j (.va (en y).2), γ⟩ elt Kq) ∧ K n (.lst (xs.map f)))
    (ok : blkC X.N X.env.scope scope [(x, i), (y, j)] = true := by kernel_rfl) (hi : X.N[i]? = some x := by rfl) (hj : X.N[j]? = some y := by rfl) (hx : ∀ s Hb C cl fp, Loc (Blk X scope s Hb C cl fp).env.scope x := by intros; first | exact Or.inl rfl | exact Or.inr rfl) (hy : ∀ s Hb C cl fp, Loc (Blk X scope s Hb C cl fp).env.scope y := by intros; first | exact Or.inl rfl | exact Or.inr rfl)
    (hf : ∀ s Hb C cl fp, (Blk X scope s Hb C cl fp).fn x = true ∨ (Blk X scope s Hb C cl fp).env.scope.names.lookup x = some .local := by intros; first | exact .inl rfl | exact .inr rfl) (hf2 : ∀ s Hb C cl fp, (Blk X scope s Hb C cl fp).fn y = true ∨ (Blk X scope s Hb C cl fp).env.scope.names.lookup y = some .local := by intros; first | exact .inl rfl | exact .inr rfl)
    (hcb : ∀ s Hb C cl fp, (Blk X scope s Hb C cl fp).calm = true := by intros; rfl)
    (hs : ∀ x, foldedSetIterable iter X.env x = pure x := by intro _; rfl) : SL X W ρ (.ListComp elt [⟨.Tuple [.Name x p1, .Name y p2] kk p3, iter, [], 0⟩] scope pos) K := by
  refine sl_lc2 i j hc hN hij ?_ ok hi hj hx hy hf hf2 hcb hs
  obtain ⟨wi, pi, h⟩ := h
  refine ⟨wi, pi, fun σ H R r g => h σ H R r fun J0 H1 n ds γ s1 r1 ok1 ⟨xs, en, f, ed, hz, turn, k⟩ => g J0 H1 n ds γ s1 r1 ok1 ⟨xs.map en, by rw [ed, List.map_map]; rfl, by rw [List.length_map]; exact hz, ?_⟩⟩
  refine ⟨fun j m acc => m = n ∧ acc = (xs.map f).take j, ⟨rfl, rfl⟩, fun j d m acc γ' W' hd ⟨em, ea⟩ hg s Hb C cl fp => ?_, fun m acc ⟨em, ea⟩ => ?_⟩
  · subst em ea
    rw [List.getElem?_map] at hd
    cases e : xs[j]? with
    | none => rw [e] at hd; cases hd
    | some y =>
      rw [e] at hd
      have ed : en y = d := Option.some.inj hd
      subst ed
      refine turn y (List.mem_of_getElem? e) γ' W' hg s Hb C cl fp _ ⟨rfl, ?_⟩
      rw [List.take_add_one, List.getElem?_map, e]
      rfl
  · subst em ea
    rw [List.length_map, ← List.length_map (f := f), List.take_length]
    exact k
end
end Sk
set_option maxHeartbeats 4000000
/-! S30: dict(d), the keys tuples. -/
namespace Sk
open PySem PySem.Spec PyProof.Rows L2
def rCopyO (X : Cx) : List V → Hp → VK → Prop := fun xs H Q => ∃ (g : G) (Fr : Addr → Prop) (a : Addr) (ks ds : List D) (kv : Obj × List V) (vs : List V), xs = [.ref a] ∧ H a = some (dO a (ents X.w ks kv vs)) ∧ RepL X.K X.w g H Fr ks kv.2 ∧ RepL X.K X.w g H Fr ds vs ∧ DKeys ks ∧ ks.length = ds.length ∧ (∀ k ∈ ks, k.leaf = false) ∧ ((ks.map D.nk).map fun k => k.hash X.w).Nodup ∧
  ∀ p o, H p = none → Q (.ref p) (upd H p (dO p (ents X.w ks (o, kv.2) vs)))
theorem call_copyO {X : Cx} (hu : X.A.units + 12 < cLine) : CallR X (.type "dict") (rCopyO X) := by
  intro pins s σ H xs us Q I r h
  obtain ⟨g, Fr, a, ks, ds, kv, vs, rfl, ha, rk, rv, dk, hl, hlf, hnd, q⟩ := h
  obtain ⟨u, rfl, rx⟩ := vals1 r
  obtain rfl : u = .ref a := rx
  obtain ⟨o, es, ep, O⟩ := dopen I ha rk rv dk hl
  have lk : ∀ k ∈ ks.map D.nk, isLeafK k = false := fun k hk => by
    obtain ⟨d, hd, rfl⟩ := List.mem_map.mp hk
    rw [leafK_nk (dk.key d hd).1]
    exact hlf d hd
  have dp : ∀ k ∈ ks.map D.nk, k.depth ≤ 8 := fun k hk => by
    obtain ⟨d, hd, rfl⟩ := List.mem_map.mp hk
    exact (dk.key d hd).2
  obtain ⟨h1, h2, h3⟩ := asH_spec (prog := X.prog) (w := X.w) O.keys.each lk dp
  have hm : s.heap.DictOfH (nestedKind X.prog X.w) a (asH (ks.map D.nk) es.toList) := ⟨o, es, ep, O.get, O.ex, O.dat, h1, h3, by rw [h2]; exact dk.nd⟩
  have hsz : (asH (ks.map D.nk) es.toList).length ≤ sizeLine := by
    have := congrArg List.length h2
    rw [List.length_map, List.length_map] at this
    rw [this]
    exact O.small
  have hne : s.heap.objs.size ≠ a := fun e => absurd (Heap.lt_size O.get) (by rw [e]; exact Nat.lt_irrefl _)
  refine callType_codes (Q₁ := fun obj s₁ => obj = .ref s.heap.objs.size ∧ s₁ = ⟨s.heap.push { cls := .type "dict", data := .dict #[] }, s.gens, s.drawn, s.toks, s.os⟩) F.kt_called_dict (F.kt_typeCall_dict_1 _) F.entry_dict_init (kt_code_dict_new _ ⟨rfl, rfl⟩) ?_
  rintro obj s₁ ⟨rfl, rfl⟩
  have hnew : (s.heap.push { cls := .type "dict", data := .dict #[] }).DictOfH (nestedKind X.prog X.w) s.heap.objs.size [] := ⟨_, #[], 0, Heap.get?_push_size _ rfl, ⟨rfl, rfl, rfl⟩, rfl, rfl, fun _ z => (nomatch z), List.nodup_nil⟩
  have hold : (s.heap.push { cls := .type "dict", data := .dict #[] }).DictOfH (nestedKind X.prog X.w) a (asH (ks.map D.nk) es.toList) :=
    ⟨o, es, ep, Heap.get?_push_of_some _ O.get, O.ex, O.dat, h1, fun x hx => nestedKind_stays.stays (fun b ob _ _ e _ => Heap.get?_push_of_some _ e) (h3 x hx), by rw [h2]; exact dk.nd⟩
  have hap : ((asH (ks.map D.nk) es.toList).map fun x => (nestedKind X.prog X.w).hash x.1).Nodup := by
    have e : ((asH (ks.map D.nk) es.toList).map fun x => (nestedKind X.prog X.w).hash x.1) = (ks.map D.nk).map fun k => k.hash X.w := by
      have e2 := congrArg (List.map fun k => NestedKey.hash X.w k) h2
      rw [List.map_map] at e2
      exact e2
    rw [e]
    exact hnd
  refine ⟨hnew.typeIs, PySem.F.args_dict_init_2 _ _, ?_⟩
  unfold Builtin.«dict.__init__» Builtin.Dict.selfAndRest
  refine wpAny_bind (wpAny_bind (wpAny_notOrdered_dict hnew.typeIs (wpAny_pure ?_)))
  show wpAny (model X.prog X.w) X.A.in1.in1 (Builtin.Dict.updateFrom "dict.__init__" s.heap.objs.size (.ref a) [] .none) _ _ _
  refine updateFrom_dictH (A := X.A.in1) (knd := nestedKind X.prog X.w) .none (by show X.A.units + 1 + 1 + 8 < cLine; omega) hne O.sys hnew hold (.inr ⟨keyed_apart nestedKind_stays hold, hap⟩) (by simpa using hsz) fun h' k1 _ k3 => ⟨rfl, ?_⟩
  rw [storedAllH_nil_of_nodup _ (by rw [h2]; exact dk.nd)] at k1
  obtain ⟨o', es', ep', g1, g2, g3, g4, g5, g6⟩ := k1
  have ees : es'.toList = es.toList := g4.trans h1.symm
  have keep : ∀ b ob, s.heap.get? b = some ob → h'.get? b = some ob := fun b ob hb => (k3.2 b (Nat.ne_of_lt (Heap.lt_size hb))).trans (Heap.get?_push_of_some _ hb)
  have fresh : H s.heap.objs.size = none := I.hok.fresh (Nat.le_refl _)
  obtain ⟨⟨hs, hz, _, _, es2, ep2, h5, h6⟩, _⟩ := (show ObjOk X.prog X.w H s.heap a (dO a (ents X.w ks kv vs)) from I.hok a _ ha)
  have e2 : es2 = es := by
    have d1 : kv.1.data = .dict es ep := O.same ▸ O.dat
    have h5 : kv.1.data = .dict es2 ep2 := h5
    rw [d1] at h5
    cases h5
    rfl
  subst e2
  refine ⟨.ref s.heap.objs.size, _, I.laid (a := s.heap.objs.size) (o := dO s.heap.objs.size (ents X.w ks (o', kv.2) vs)) (t' := s.toks) keep (Nat.le_refl _) ?_, rfl, q _ o' fresh⟩
  refine ⟨⟨big_sys I, hz, g1, g2, es', ep', g3, by rw [ees]; exact h6⟩, ⟨o', g1⟩, fun x1 x2 ⟨y1, y2, y3, y4⟩ st => ⟨y1, y2, st _ y3, y4⟩⟩
section
variable {X : Cx} {W : Fm} {ρ : En} {K : Nat → D → Prop} {e : Expr} {pos p1 : Pos}
/-- dict(d) -/
theorem sf_dictC (hm : X.mg "dict" = none) (hu : X.A.units + 12 < cLine) (h : SB X W ρ e fun n d => ∃ ks ds, d = .dct ks ds ∧ (∀ k ∈ ks, k.leaf = false) ∧ ((ks.map D.nk).map fun k => k.hash X.w).Nodup ∧ K n (.dct ks ds)) (hg : Gl X "dict" := by rfl)
    (hs : starEach [e] X.env = (false, eval e X.env) :: starEach [] X.env := by rfl) : SF X W ρ (.Call (.Name "dict" p1) [e] [] pos) K :=
  sf_t1 (call_copyO hu) hm PyProof.Rows.boot_dict (h.imp fun n d ⟨ks, ds, ed, h1, h2, k⟩ => by
    subst ed
    intro σ H v Q r p f
    obtain ⟨a, kv, vs, e1, _, q, rk, rv, dk, hl⟩ := p
    subst e1
    exact ⟨W.g, Fb W.O σ ρ.s, a, ks, ds, kv, vs, rfl, q, rk, rv, dk, hl, h1, h2, fun p o hp => FolF.dct f r (kv := (o, kv.2)) rk rv dk hl k hp⟩) hg (hs := hs)
end
end Sk
set_option maxHeartbeats 4000000
/-! S31: methods. -/
namespace Sk
open PySem PySem.Spec PyProof.Rows L2
/-- the method m of the class at C keeps the contract -/
def MethOk (P : Program) (w : World) (K : PySem.W.Frag) (mg : Str → Option Value) (base : Heap) (C : Addr) (m : Str) (k : Nat) (ps : List Str) (ct : CT) : Prop :=
  ∃ f fd, FnOk P w K mg base CX0 k f fd ps (spD K w ct) ∧ Meth K C m f ∧ Binds K fd ps []
theorem meth_ok {P : Program} {w : World} {K : PySem.W.Frag} {mg : Str → Option Value} {base : Heap} {m qual : Str} {C : Addr} {st : Stmt} {f : Addr} {fd : FuncData} {N ps : List Str} {k : Nat} {ct : CT} (F : Fun K m qual st f fd) (hm : Meth K C m f) (hb : Binds K fd ps [])
    (S : FnScope N ps (defScope st)) (len : ∀ n ds Kp, ct n ds Kp → ds.length = ps.length)
    (body : ∀ (cdv : Value) (A : Around) (outer : List Env) (s : Shared) (H : Hp) (E : XK) (W : Fm) (n : Nat) (ds : List D) (Kp : Nat → D → Prop), Room k (A.deeper (envOfC qual (defScope st) s.heap.objs.size f cdv)) → ct n ds Kp →
      SS (cxOf CX0 P w K mg base N qual (defScope st) f cdv A outer s H E).nox W ⟨n, startD N ds, []⟩ (defBody st) ⟨fun ρ' => Kp ρ'.n .non, Kp, fun _ => False, fun _ => False⟩) : MethOk P w K mg base C m (k + 1) ps ct := by
  refine ⟨f, fd, F.ok S (fun vs H Q E h => ?_) (fun cdv A outer s H vs Q E hr h => ?_), hm, hb⟩
  · obtain ⟨g, O, n, ds, Kp, _, hR, hc, _⟩ := h
    rw [← hR.length]
    exact len n ds Kp hc
  · obtain ⟨g, O, n, ds, Kp, cal, hR, hc, q⟩ := h
    refine ⟨_, pss_X (W := ⟨g, O, H⟩), ⟨_, re_start cal hR, _, body cdv A outer s H E ⟨g, O, H⟩ n ds Kp hr hc, ⟨fun σ' H' ρ' r' k' => ?_, fun v H' n' d rt rp k' => ?_, fun _ _ _ _ z => z.elim, fun _ _ _ _ z => z.elim⟩⟩⟩
    · exact q .non H' ρ'.n .non r'.same ⟨r'.src, r'.tr⟩ rfl k'
    · exact q v H' n' d rt.same ⟨rt.src, rt.tr⟩ rp k'
theorem zip_none {m : Str} : ∀ {ns : List Str} {vs : List V}, m ∉ ns → (ns.zip vs).lookup m = none
  | [], _, _ => rfl
  | _ :: _, [], _ => rfl
  | n :: ns, v :: vs, h => by
    rw [List.zip_cons_cons, List.lookup_cons]
    have ne : (m == n) = false := by
      rw [beq_eq_false_iff_ne]
      exact fun z => h (z ▸ List.mem_cons_self)
    rw [ne]
    exact zip_none fun z => h (List.mem_cons_of_mem _ z)
section
variable {X : Cx} {W : Fm} {ρ : En} {K : Nat → D → Prop} {o : Expr} {pos apos : Pos}
/-- o.m() -/
theorem se_meth0 {C : Addr} {m : Str} {k : Nat} {ps : List Str} {ct : CT} {pl : Sem Bool} (hD : MethOk X.prog X.w X.K X.mg X.base C m k ps ct) (c : Cls X.K C) (hr : Room k X.A) (h : SE X W ρ o fun n d => ∃ ns ds, d = .obj C ns ds ∧ m ∉ ns ∧ ct n [d] K)
    (ht : eval (.Call (.Attribute o m apos) [] [] pos) X.env = (do
      let ov ← eval o X.env
      standAt apos.atName
      let (f, first) ← holding [ov] (getMethod ov m pl)
      callWith pos f first (backTo pos (starEach [] X.env)) (backToKw pos (keywordEach [] X.env))) := by rfl) : SE X W ρ (.Call (.Attribute o m apos) [] [] pos) K := by
  obtain ⟨f, fd, F, hm, hb⟩ := hD
  refine SE.of (pe_meth0 (pl := pl) (pe_X (W := W) (ρ := ρ)) c hm F hr hb .nil pass0 ht) fun σ H Q r f => ⟨ρ.n, r, _, h, fun v H1 n d s1 r1 p1 ⟨ns, ds, ed, hn, hc⟩ => ?_⟩
  subst ed
  obtain ⟨a, dx, vs, e, nf, q, rl, l⟩ := id p1
  subst e
  refine ⟨a, dx, _, rfl, q, zip_none hn, ?_⟩
  have rl1 : RepL X.K X.w W.g H1 (Fb W.O σ ρ.s) [.obj C ns ds] [.ref a] := ⟨_, [], rfl, p1, rfl⟩
  show spD X.K X.w ct [.ref a] H1 Q E0
  exact (f.later (n := n) s1).call r1 rl1 hc E0
end
end Sk
set_option maxHeartbeats 4000000
/-! F15: tables. -/
namespace Sk
open PySem PySem.Spec PyProof.Rows L2
def vAt (f : TD T) (t : T) : T := (aget f.1 f.2 t).getD none
def toldK (f : TD T) (ks : List (Int × T)) (t : T) : List (Int × T) := match vAt f t with
  | none => ks
  | some v => aputK ks (v, seenU (some v) t)
def told (f : TD T) : List (Int × T) := f.1.foldl (toldK f) []
def clash (f : TD T) (t : T) (m : Int) : Bool := decide ((m, seenU (some m) t) ∈ told f) && !decide (vAt f t = some m)
def steady (l : Int) (f : TD T) : Bool := f.1.all fun t => (irng 0 (l + 1).toNat).all fun m => !clash f t m
def kk2 (p : Int × T) : D := .tup [.int p.1, rw1 p.2]
theorem kk2_cod : Cod kk2 := ⟨fun a b h => by
  have h' : NestedKey.tup [.num a.1, (rw1 a.2).nk] = NestedKey.tup [.num b.1, (rw1 b.2).nk] := h
  injection h' with h1
  injection h1 with h2 h3
  injection h2 with h4
  injection h3 with h5
  have h6 := rw1_cod.inj a.2 b.2 h5
  cases a
  cases b
  cases h4
  cases h6
  rfl⟩
theorem kk2_key (p : Int × T) : (kk2 p).isK = true ∧ (kk2 p).nk.depth ≤ 8 ∧ (kk2 p).leaf = false := by
  obtain ⟨m, t⟩ := p
  cases t with
  | none => exact ⟨rfl, by simp [kk2, rw1, rowD, tD, D.nk, nkL, NestedKey.depth, NestedKey.depthAll], rfl⟩
  | some i => exact ⟨rfl, by simp [kk2, rw1, rowD, tD, D.nk, nkL, NestedKey.depth, NestedKey.depthAll], rfl⟩
theorem kk2_kok {ks : List (Int × T)} {k : Int × T} : KOk (ks.map kk2) (kk2 k) := by
  refine ⟨(kk2_key k).1, (kk2_key k).2.1, .inr fun x hx => ?_⟩
  obtain ⟨t, _, rfl⟩ := List.mem_map.mp hx
  rw [(kk2_key t).2.2, (kk2_key k).2.2]
theorem const_put {α : Type} [DecidableEq α] {en : α → D} (c : Cod en) (ks : List α) (k : α) : dputV (ks.map en) (ks.map fun _ => .bl true) (en k) (.bl true) = (aputK ks k).map fun _ => .bl true := by
  unfold dputV aputK
  rw [at_map c]
  cases ks.findIdx? fun x => decide (x = k) with
  | none => simp
  | some i =>
    show (ks.map fun _ => D.bl true).set i (.bl true) = ks.map fun _ => D.bl true
    apply List.ext_getElem?
    intro j
    rw [List.getElem?_set]
    by_cases e : i = j
    · subst e
      rw [if_pos rfl]
      by_cases q : i < (ks.map fun _ => D.bl true).length
      · rw [if_pos q, List.getElem?_eq_getElem q]
        simp
      · rw [if_neg q, List.getElem?_eq_none (by omega)]
    · rw [if_neg e]
def toldD (ks : List (Int × T)) : D := .dct (ks.map kk2) (ks.map fun _ => .bl true)
theorem led_get {f : TD T} {t : T} (hl : f.1.length = f.2.length) (h : t ∈ f.1) : aget f.1 f.2 t = some (vAt f t) ∧ dget (f.1.map rw1) (f.2.map tD) (rw1 t) = some (tD (vAt f t)) := by
  have e1 : (aget f.1 f.2 t).isSome = true := ((aget_in hl).trans (decide_eq_decide.mpr Iff.rfl)).trans (decide_eq_true h)
  have e2 : aget f.1 f.2 t = some (vAt f t) := by
    unfold vAt
    cases e : aget f.1 f.2 t with
    | none => rw [e] at e1; cases e1
    | some v => rfl
  refine ⟨e2, ?_⟩
  rw [dget_map rw1_cod, e2]
  rfl
theorem okE_tD (t : T) : (tD t).okE = true := by cases t <;> rfl
theorem told_len (f : TD T) (ks : List (Int × T)) (t : T) : (toldK f ks t).length ≤ ks.length + 1 := by
  unfold toldK
  cases vAt f t with
  | none => exact Nat.le_succ _
  | some v => exact aputK_len
section
variable {P : Program} {w : World} {K : PySem.W.Frag} {mg : Str → Option Value} {base : Heap} {cP cT : Addr}
def ct_is_steady : CT := c2 fun n a0 a1 Kp => ∃ (l : Int) (f : TD T), a0 = .int l ∧ a1 = ledD f ∧ 0 ≤ l ∧ l ≤ 100 ∧ f.1.length = f.2.length ∧ f.1.length ≤ 1000 ∧ Kp n (.bl (steady l f))
theorem sc_is_steady : FnScope ["length", "answers", "told", "row", "moment"] ["length", "answers"] (defScope (topS 36)) := ⟨rfl, rfl, rfl, by decide +kernel, rfl, by decide +kernel, by decide +kernel⟩
theorem nd_is_steady : List.Nodup (["length", "answers", "told", "row", "moment"] : List Str) := by decide +kernel
theorem d_is_steady (V : Ev K mg cP cT) (h1 : DefOk P w K mg base "seen_until" 3 ["row", "moment"] ct_seen_until) : DefOk P w K mg base "is_steady" 4 ["length", "answers"] ct_is_steady := by
  obtain ⟨f, fd, F, hm⟩ := V.t (tn "is_steady" 36) (by decide +kernel)
  refine def_ok F hm (F.binds (ps := ["length", "answers"]) fun _ _ _ _ _ _ us hl => match us, hl with | [_, _], _ => rfl) sc_is_steady (fun n ds Kp hc => ?_) (fun cdv A outer s H E W n ds Kp hr hc => ?_)
  · obtain ⟨_, _, rfl, _⟩ := hc
    rfl
  · obtain ⟨a0, a1, rfl, l, f, rfl, rfl, l0, l1, fl, few, hc⟩ := hc
    refine ss_cons (sn_own 2 nd_is_steady (sf_dict0 ?_))
    refine ss_cons (sn_for .never rfl (si_dict (se_va 1 ?_)))
    refine ⟨_, _, rfl, fun k m s => m = n ∧ k ≤ f.1.length ∧ ∃ ks x y, ks = (f.1.take k).foldl (toldK f) [] ∧ ks.length ≤ k ∧ s = [.va (.int l), .va (ledD f), .ow (toldD ks), x, y], ⟨rfl, Nat.zero_le _, [], _, _, rfl, Nat.zero_le _, rfl⟩, fun k d m s γ hd hJ => ?_, fun m s hJ => ?_⟩
    · obtain ⟨rfl, hk, ks, x, y, ek, lk, rfl⟩ := hJ
      obtain ⟨t, et, rfl⟩ := get_map hd
      have kl : k < f.1.length := (List.getElem?_eq_some_iff.mp et).1
      obtain ⟨gv, gd⟩ := led_get fl (List.mem_of_getElem? et)
      have step := foldl_take_succ (toldK f) [] et
      rw [← ek] at step
      refine sg_nm 3 ?_ nd_is_steady
      refine ss_cons (sn_if (st_cmp (sc_isnot (SE.sb (se_dix (u9 hr) (sb_nm 1 (se_va 3 ?_)))))))
      refine ⟨_, _, _, rfl, rw1_kok, gd, ?_⟩
      cases ev : vAt f t with
      | none =>
        refine ss_nil (ss_nil ⟨rfl, rfl, kl, ks, _, y, ?_, by omega, rfl⟩)
        rw [step]
        unfold toldK
        rw [ev]
      | some v =>
        rw [ev] at gd
        refine ss_cons (sn_dset 2 (u9 hr) (se_bl (se_tup (sa_cons (se_dix (u9 hr) (sb_nm 1 (se_va 3 ?_)))))))
        refine ⟨_, _, _, rfl, rw1_kok, gd, sa_cons (se_call h1 (hr.mono (by decide)) (sa_cons (se_va 3 (sa_cons (se_dix (u9 hr) (sb_nm 1 (se_va 3 ?_)))))))⟩
        refine ⟨_, _, _, rfl, rw1_kok, gd, sa_nil ⟨_, _, rfl, t, v, rfl, rfl, sa_nil ⟨two_le, ?_⟩⟩⟩
        have e3 : toldK f ks t = aputK ks (v, seenU (some v) t) := by
          unfold toldK
          rw [ev]
        refine ⟨kk2_kok (k := (v, seenU (some v) t)), by rw [List.length_map]; omega, ss_nil (ss_nil ⟨rfl, rfl, kl, toldK f ks t, .va (rw1 t), y, step.symm, ?_, ?_⟩)⟩
        · have := told_len f ks t
          omega
        · show [Sl.va (.int l), .va (ledD f), .ow (.dct (dputK (ks.map kk2) (kk2 (v, seenU (some v) t))) (dputV (ks.map kk2) (ks.map fun _ => .bl true) (kk2 (v, seenU (some v) t)) (.bl true))), .va (rw1 t), y] = _
          rw [dputK_map kk2_cod, const_put kk2_cod, e3]
          rfl
    · obtain ⟨rfl, hk, ks, x, y, ek, lk, rfl⟩ := hJ
      rw [List.length_map, List.take_length] at ek
      have ek : ks = told f := ek
      subst ek
      refine ss_cons (sn_for .never rfl (si_dict (se_va 1 ?_)))
      refine ⟨_, _, rfl, fun k m' s => m' = m ∧ ((f.1.take k).all fun t => (irng 0 (l + 1).toNat).all fun i => !clash f t i) = true ∧ ∃ x y, s = [.va (.int l), .va (ledD f), .ow (toldD (told f)), x, y], ⟨rfl, rfl, _, _, rfl⟩, fun k d m' s γ hd hJ => ?_, fun m' s hJ => ?_⟩
      · obtain ⟨rfl, ha, x, y, rfl⟩ := hJ
        obtain ⟨t, et, rfl⟩ := get_map hd
        obtain ⟨gv, gd⟩ := led_get fl (List.mem_of_getElem? et)
        refine sg_nm 3 ?_ nd_is_steady
        refine ss_cons (sn_for .never rfl (si_range1 (V.b _ (by decide +kernel)) (sa_cons (se_add (sb_nm 0 ?_)))))
        refine SE.sb (se_int ⟨_, .int, sa_nil ⟨l + 1, rfl, by omega, ?_⟩⟩)
        rw [rngD_irng]
        refine ⟨fun j m2 s => m2 = m' ∧ (((irng 0 (l + 1).toNat).take j).all fun i => !clash f t i) = true ∧ ∃ y, s = [.va (.int l), .va (ledD f), .ow (toldD (told f)), .va (rw1 t), y], ⟨rfl, rfl, _, rfl⟩, fun j d m2 s γ' hd hJ => ?_, fun m2 s hJ => ?_⟩
        · obtain ⟨rfl, hb, y, rfl⟩ := hJ
          obtain ⟨i, ei, rfl⟩ := get_map hd
          refine sg_nm 4 ?_ nd_is_steady
          refine ss_cons (sn_if (STt.imp (K := fun n' k => n' = m2 ∧ k = clash f t i) ?_ fun n' k ⟨e1, e2⟩ => ?_))
          · refine SW.st (sw_and (st_din (u9 hr) (se_tup (sa_cons (se_va 4 (sa_cons (se_call h1 (hr.mono (by decide)) (sa_cons (se_va 3 (sa_cons (se_va 4 (sa_nil ?_))))))))))))
            refine ⟨_, _, rfl, t, i, rfl, rfl, sa_nil ⟨two_le, sb_nm 2 ⟨_, _, rfl, kk2_kok (k := (i, seenU (some i) t)), ?_⟩⟩⟩
            have e1 := dget_map kk2_cod (f := fun _ : Int × T => D.bl true) (ks := told f) (vs := told f) (k := (i, seenU (some i) t))
            have e2 : (aget (told f) (told f) (i, seenU (some i) t)).isSome = decide ((i, seenU (some i) t) ∈ told f) := (aget_in rfl).trans (decide_eq_decide.mpr Iff.rfl)
            have e3 : (dget ((told f).map kk2) ((told f).map fun _ => D.bl true) (kk2 (i, seenU (some i) t))).isSome = decide ((i, seenU (some i) t) ∈ told f) := by
              rw [e1, Option.isSome_map, e2]
            have e4 : clash f t i = (decide ((i, seenU (some i) t) ∈ told f) && !decide (vAt f t = some i)) := rfl
            show if (dget ((told f).map kk2) ((told f).map fun _ => D.bl true) (kk2 (i, seenU (some i) t))).isSome = true then _ else _
            rw [e3]
            cases ed : decide ((i, seenU (some i) t) ∈ told f) with
            | false =>
              rw [ed] at e4
              exact ⟨rfl, by rw [e4]; rfl⟩
            | true =>
              rw [ed, Bool.true_and] at e4
              refine sw_one (st_cmp (sc_ne hr.units (SE.sb (se_dix (u9 hr) (sb_nm 1 (se_va 3 ?_))))))
              refine ⟨_, _, _, rfl, rw1_kok, gd, sb_nm 4 ⟨okE_tD _, rfl, rfl, ?_⟩⟩
              rw [e4]
              have e5 := eqD_tD (vAt f t) (some i)
              exact congrArg (! ·) e5
          · subst e1 e2
            cases ec : clash f t i with
            | true =>
              have e6 : steady l f = false := by
                refine tb1 et (tb1 ei ?_)
                rw [ec]
                rfl
              rw [e6] at hc
              exact ss_cons (sn_ret (se_bl hc))
            | false =>
              refine ss_nil (ss_nil ⟨rfl, rfl, tb0 ei hb ?_, _, rfl⟩)
              rw [ec]
              rfl
        · obtain ⟨rfl, hb, y, rfl⟩ := hJ
          rw [List.length_map, List.take_length] at hb
          exact ss_nil ⟨rfl, rfl, tb0 et ha hb, _, _, rfl⟩
      · obtain ⟨rfl, ha, x, y, rfl⟩ := hJ
        rw [List.length_map, List.take_length] at ha
        have e6 : steady l f = true := ha
        rw [e6] at hc
        exact ss_cons (sn_ret (se_bl hc))
end
end Sk
set_option maxHeartbeats 4000000
/-! F16: tables made. -/
namespace Sk
open PySem PySem.Spec PyProof.Rows L2
structure AnsOk (l : Int) (f : TD T) : Prop where
  len : f.1.length = f.2.length
  num : f.1.length = (tms l).length
  row : ∀ t ∈ f.1, okT l t = true
  tim : ∀ v ∈ f.2, okT l v = true
  all : ∀ t ∈ tms l, t ∈ f.1
theorem vAt_mem {f : TD T} {t : T} (hl : f.1.length = f.2.length) (h : t ∈ f.1) : vAt f t ∈ f.2 := aget_mem (led_get hl h).1
/-- the answers, in the order of the rows -/
def norm (l : Int) (f : TD T) : TD T := (tms l, (tms l).map (vAt f))
theorem tms1 : tms 1 = [some 0, some 1, none] := by rfl
theorem tms2 : tms 2 = [some 0, some 1, some 2, none] := by rfl
theorem dictA_norm {l : Int} (hl : l = 1 ∨ l = 2) (f : TD T) : dictA ((tms l).map fun t => (t, vAt f t)) = norm l f := by
  rcases hl with rfl | rfl
  · unfold norm
    rw [tms1]
    rfl
  · unfold norm
    rw [tms2]
    rfl
def hT (t : T) : Int := reduceHash (Builtin.Tuple.tupleHashOf [match t with | none => reduceHash 0xFCA86420 | some i => hashInt i])
theorem hT_eq (w : World) (t : T) : (rw1 t).nk.hash w = hT t := by
  cases t with
  | none => rfl
  | some i => rfl
theorem hT0 : hT (some 0) = -8753497827991233192 := by decide +kernel
theorem hT1 : hT (some 1) = -6644214454873602895 := by decide +kernel
theorem hT2 : hT (some 2) = 6909455589863252355 := by decide +kernel
theorem hTn : hT none = 9181102132670838864 := by decide +kernel
theorem hT_map (w : World) : ∀ L : List T, (((L.map rw1).map D.nk).map fun k => k.hash w) = L.map hT
  | [] => by
    rw [List.map_nil, List.map_nil, List.map_nil, List.map_nil]
  | t :: L => by
    rw [List.map_cons, List.map_cons, List.map_cons, List.map_cons, hT_map w L, hT_eq w t]
theorem hT_nd {l : Int} (hl : l = 1 ∨ l = 2) : ((tms l).map hT).Nodup := by
  rcases hl with rfl | rfl
  · rw [show tms 1 = [some 0, some 1, none] from rfl, List.map_cons, List.map_cons, List.map_cons, List.map_nil, hT0, hT1, hTn]
    decide
  · rw [show tms 2 = [some 0, some 1, some 2, none] from rfl, List.map_cons, List.map_cons, List.map_cons, List.map_cons, List.map_nil, hT0, hT1, hT2, hTn]
    decide
theorem hash_nd {l : Int} (hl : l = 1 ∨ l = 2) (w : World) : ((((tms l).map rw1).map D.nk).map fun k => k.hash w).Nodup := by
  rw [hT_map w (tms l)]
  exact hT_nd hl
section
variable {P : Program} {w : World} {K : PySem.W.Frag} {mg : Str → Option Value} {base : Heap} {cP cT : Addr}
def ct_are_answers : CT := c3 fun n a0 a1 a2 Kp => ∃ (l : Int) (f : TD T), a0 = .int 1 ∧ a1 = .int l ∧ a2 = ledD f ∧ 0 ≤ l ∧ l ≤ 100 ∧ AnsOk l f ∧ Kp n (.bl (steady l f))
theorem sc_are_answers : FnScope ["size", "length", "thing", "row"] ["size", "length", "thing"] (defScope (topS 35)) := ⟨rfl, rfl, rfl, by decide +kernel, rfl, by decide +kernel, by decide +kernel⟩
theorem nd_are_answers : List.Nodup (["size", "length", "thing", "row"] : List Str) := by decide +kernel
theorem d_are_answers (V : Ev K mg cP cT) (h1 : DefOk P w K mg base "all_rows" 7 ["size", "length"] ct_all_rows) (h2 : DefOk P w K mg base "is_row_at" 7 ["thing", "length"] ct_is_row_at) (h3 : DefOk P w K mg base "is_time" 5 ["thing", "length"] ct_is_time) (h4 : DefOk P w K mg base "is_steady" 4 ["length", "answers"] ct_is_steady) : DefOk P w K mg base "are_answers" 8 ["size", "length", "thing"] ct_are_answers := by
  obtain ⟨f, fd, F, hm⟩ := V.t (tn "are_answers" 35) (by decide +kernel)
  refine def_ok F hm (F.binds (ps := ["size", "length", "thing"]) fun _ _ _ _ _ _ us hl => match us, hl with | [_, _, _], _ => rfl) sc_are_answers (fun n ds Kp hc => ?_) (fun cdv A outer s H E W n ds Kp hr hc => ?_)
  · obtain ⟨_, _, _, rfl, _⟩ := hc
    rfl
  · obtain ⟨a0, a1, a2, rfl, l, f, rfl, rfl, rfl, l0, l1, ok, hc⟩ := hc
    have tl := tms_len l
    have nf := ok.num
    refine ss_cons (sn_if (SW.st (sw_or (st_not (st_val (se_isB (n := "dict") (V.b _ (by decide +kernel)) (V.b _ (by decide +kernel)) PyProof.Rows.boot_dict (sb_nm 2 ?_)))))))
    refine ⟨_, true, rfl, kit_ty (by decide +kernel), _, rfl, ?_⟩
    refine sw_one (st_cmp (sc_ne hr.units (SE.sb (se_len (V.b _ (by decide +kernel)) (sb_nm 2 ?_)))))
    refine ⟨f.1.length, by show some (f.1.map rw1).length = _; rw [List.length_map], SE.sb (se_len (V.b _ (by decide +kernel)) (SE.sb (se_call h1 (hr.mono (by decide)) (sa_cons (se_va 0 (sa_cons (se_va 1 (sa_nil ?_))))))))⟩
    refine ⟨_, _, rfl, l, rfl, rfl, l0, by omega, f.1.length, by show some ((tms l).map fun t => rowD [t]).length = _; rw [List.length_map, nf], rfl, rfl, ?_⟩
    rw [eqD_int]
    refine ss_nil (ss_cons (sn_if (st_not (st_val (se_all (V.b _ (by decide +kernel)) rfl (SE.sb (SL.se (sl_lcM (α := T) 3 rfl nd_are_answers (si_dict (se_va 2 ?_))))))))))
    refine ⟨_, _, rfl, f.1, rw1, fun _ => .bl true, rfl, by omega, fun t ht γ W' hg s Hb C cl fp Kq hq => ?_, f.1.map (fun _ => true), by rw [List.map_map]; rfl, _, rfl, ?_⟩
    · refine se_and (se_call h2 (hr.mono (by decide)) (sa_cons (se_va 3 (sa_cons (se_va 1 (sa_nil ?_))))))
      have e0 : ([t].all (okT l)) = true := by
        show (okT l t && true) = true
        rw [ok.row t ht]
        rfl
      refine ⟨_, _, rfl, [t], l, rfl, rfl, Nat.le_refl 1, Nat.le_of_ble_eq_true rfl, _, rfl, ?_⟩
      rw [if_pos e0]
      refine se_and1 (se_cmp (sc_eq hr.units (SE.sb (se_len (V.b _ (by decide +kernel)) (sb_nm 3 ?_)))))
      refine ⟨1, rfl, sb_nm 0 ⟨rfl, rfl, ?_⟩⟩
      have e5 : eqD (.int ((1 : Nat) : Int)) (.int 1) = true := eqD_int 1
      show Kq _ (.bl (eqD (.int ((1 : Nat) : Int)) (.int 1)))
      rw [e5]
      exact hq
    have e1 : (f.1.map (fun _ => true)).all id = true := by
      rw [List.all_map, List.all_eq_true]
      exact fun _ _ => rfl
    rw [e1]
    refine ss_nil (ss_cons (sn_if (st_not (st_val (se_all (V.b _ (by decide +kernel)) rfl (SE.sb (SL.se (sl_lcM (α := T) 3 rfl nd_are_answers (si_dict (se_va 2 ?_))))))))))
    refine ⟨_, _, rfl, f.1, rw1, fun _ => .bl true, rfl, by omega, fun t ht γ W' hg s Hb C cl fp Kq hq => ?_, f.1.map (fun _ => true), by rw [List.map_map]; rfl, _, rfl, ?_⟩
    · obtain ⟨gv, gd⟩ := led_get ok.len ht
      refine se_call h3 (hr.mono (by decide)) (sa_cons (se_dix (u9 hr) (sb_nm 2 (se_va 3 ?_))))
      refine ⟨_, _, _, rfl, rw1_kok, gd, sa_cons (se_va 1 (sa_nil ⟨_, _, rfl, vAt f t, l, rfl, rfl, ?_⟩))⟩
      rw [ok.tim _ (vAt_mem ok.len ht)]
      exact hq
    rw [e1]
    refine ss_nil (ss_cons (sn_ret (se_call h4 (hr.mono (by decide)) (sa_cons (se_va 1 (sa_cons (se_va 2 (sa_nil ?_))))))))
    exact ⟨_, _, rfl, l, f, rfl, rfl, l0, l1, ok.len, by omega, hc⟩
def ct_Table (cP cT : Addr) : CT := c3 fun n a0 a1 a2 Kp => ∃ (l : Int) (f : TD T), a0 = .int 1 ∧ a1 = .int l ∧ a2 = ledD f ∧ (l = 1 ∨ l = 2) ∧ AnsOk l f ∧ steady l f = true ∧ Kp n (tabD cT l (ledD (norm l f)))
theorem sc_Table : FnScope ["self", "size", "length", "answers", "row"] ["self", "size", "length", "answers"] (defScope (methS 37 0)) := ⟨rfl, rfl, rfl, by decide +kernel, rfl, by decide +kernel, by decide +kernel⟩
theorem nd_Table : List.Nodup (["self", "size", "length", "answers", "row"] : List Str) := by decide +kernel
theorem i_Table (V : Ev K mg cP cT) (h1 : DefOk P w K mg base "is_between" 4 ["thing", "least", "most"] ct_is_between) (h2 : DefOk P w K mg base "is_length" 5 ["thing"] ct_is_length) (h3 : DefOk P w K mg base "are_answers" 8 ["size", "length", "thing"] ct_are_answers) (h4 : DefOk P w K mg base "all_rows" 7 ["size", "length"] ct_all_rows) : MakeOk P w K mg base "Table" cT 10 ["self", "size", "length", "answers"] (ct_Table cP cT) := by
  obtain ⟨f, fd, F, M⟩ := V.iT
  refine init_ok F V.mT M (F.binds (ps := ["self", "size", "length", "answers"]) fun _ _ _ _ _ _ us hl => match us, hl with | [_, _, _, _], _ => rfl) sc_Table (fun n ds Kp hc => ?_) (fun cdv A outer s H E W n ds Kp hr hc => ?_)
  · obtain ⟨_, _, _, rfl, _⟩ := hc
    rfl
  · obtain ⟨a0, a1, a2, rfl, l, f, rfl, rfl, rfl, l12, ok, st, hc⟩ := hc
    have tl := tms_len l
    refine sx_if (st_not (st_val (se_call h1 (hr.mono (by decide)) (sa_cons (se_va 1 (sa_cons (se_int (sa_cons (se_int (sa_nil ?_))))))))))
    refine ⟨_, _, _, rfl, 1, 1, 3, rfl, rfl, rfl, _, rfl, rfl, ?_⟩
    refine sx_if (st_not (st_val (se_call h2 (hr.mono (by decide)) (sa_cons (se_va 2 (sa_nil ?_))))))
    refine ⟨_, rfl, l, rfl, _, rfl, ?_⟩
    rw [decide_eq_true (by omega : 1 ≤ l), decide_eq_true (by omega : l ≤ 8)]
    refine ⟨rfl, ?_⟩
    refine sx_if (st_not (st_val (se_call h3 (hr.mono (by decide)) (sa_cons (se_va 1 (sa_cons (se_va 2 (sa_cons (se_va 3 (sa_nil ?_))))))))))
    refine ⟨_, _, _, rfl, l, f, rfl, rfl, rfl, by omega, by omega, ok, _, rfl, ?_⟩
    rw [st]
    refine ⟨rfl, ?_⟩
    refine sx_set (ns := []) V.oT.cl (V.nT _ (by decide +kernel)) (by decide +kernel) (by decide) (only0 rfl rfl) (se_va 1 ?_)
    refine sx_set (ns := ["size"]) V.oT.cl (V.nT _ (by decide +kernel)) (by decide +kernel) (by decide) (only0 rfl rfl) (se_va 2 ?_)
    refine sx_set (ns := ["size", "length"]) V.oT.cl (V.nT _ (by decide +kernel)) (by decide +kernel) (by decide) (only0 rfl rfl) (SF.se (sf_dictP (V.b _ (by decide +kernel)) rfl (u12 hr) (SE.sb (SL.se (sl_lcM (α := T) 4 rfl nd_Table (si_list (se_call h4 (hr.mono (by decide)) (sa_cons (se_va 1 (sa_cons (se_va 2 (sa_nil ?_))))))))))))
    refine ⟨_, _, rfl, l, rfl, rfl, by omega, by omega, _, rfl, tms l, rw1, fun t => .tup [rw1 t, tD (vAt f t)], rfl, by omega, fun t ht γ W' hg s Hb C cl fp Kq hq => ?_, (tms l).map (fun t => (rw1 t, tD (vAt f t))), by rw [List.map_map]; rfl, ?_, by rw [List.length_map]; omega, ?_⟩
    · obtain ⟨gv, gd⟩ := led_get ok.len (ok.all t ht)
      refine se_tup (sa_cons (se_va 4 (sa_cons (se_dix (u9 hr) (sb_nm 3 (se_va 4 ?_))))))
      exact ⟨_, _, _, rfl, rw1_kok, gd, sa_nil ⟨two_le, hq⟩⟩
    · refine ⟨fun k hk => ?_, .inr fun k hk => ?_⟩
      · rw [List.map_map] at hk
        obtain ⟨t, _, rfl⟩ := List.mem_map.mp hk
        exact ⟨(rw1_key t).1, (rw1_key t).2.1⟩
      · rw [List.map_map] at hk
        obtain ⟨t, _, rfl⟩ := List.mem_map.mp hk
        exact (rw1_key t).2.2
    have e1 : ((tms l).map fun t => (rw1 t, tD (vAt f t))) = ((tms l).map fun t => (t, vAt f t)).map fun p => (rw1 p.1, tD p.2) := by
      rw [List.map_map]
      rfl
    rw [e1, dictD_map rw1_cod, dictA_norm l12]
    exact sx_nil ⟨_, rfl, fun i d => noOw_get rfl, hc⟩
def ct_answers (cP cT : Addr) : CT := c1 fun n a0 Kp => ∃ (l : Int) (f : TD T), a0 = tabD cT l (ledD f) ∧ f.1 = tms l ∧ (l = 1 ∨ l = 2) ∧ Kp n (ledD f)
theorem sc_answers : FnScope ["self"] ["self"] (defScope (methS 37 1)) := ⟨rfl, rfl, rfl, by decide +kernel, rfl, by decide +kernel, by decide +kernel⟩
theorem m_answers (V : Ev K mg cP cT) : MethOk P w K mg base cT "answers" 2 ["self"] (ct_answers cP cT) := by
  obtain ⟨f, fd, F, hm⟩ := V.aT
  refine meth_ok F hm (F.binds (ps := ["self"]) fun _ _ _ _ _ _ us hl => match us, hl with | [_], _ => rfl) sc_answers (fun n ds Kp hc => ?_) (fun cdv A outer s H E W n ds Kp hr hc => ?_)
  · obtain ⟨_, rfl, _⟩ := hc
    rfl
  · obtain ⟨a0, rfl, l, f, rfl, ef, l12, hc⟩ := hc
    refine ss_cons (sn_ret (SF.se (sf_dictC (V.b _ (by decide +kernel)) (u12 hr) (SE.sb (se_fld (sb_nm 0 ?_))))))
    refine ⟨_, _, _, _, rfl, V.oT.cl, V.nT _ (by decide +kernel), rfl, _, _, rfl, fun k hk => ?_, ?_, hc⟩
    · obtain ⟨t, _, rfl⟩ := List.mem_map.mp hk
      exact (rw1_key t).2.2
    · rw [ef]
      exact hash_nd l12 _
def ct_table_from (cP cT : Addr) : CT := c3 fun n a0 a1 a2 Kp => ∃ (l : Int) (f : TD T), a0 = .int 1 ∧ a1 = .int l ∧ a2 = ledD f ∧ (l = 1 ∨ l = 2) ∧ AnsOk l f ∧ steady l f = true ∧ Kp n (tabD cT l (ledD (norm l f)))
theorem sc_table_from : FnScope ["size", "length", "answers"] ["size", "length", "answers"] (defScope (topS 38)) := ⟨rfl, rfl, rfl, by decide +kernel, rfl, by decide +kernel, by decide +kernel⟩
theorem nd_table_from : List.Nodup (["size", "length", "answers"] : List Str) := by decide +kernel
theorem d_table_from (V : Ev K mg cP cT) (h1 : MakeOk P w K mg base "Table" cT 10 ["self", "size", "length", "answers"] (ct_Table cP cT)) : DefOk P w K mg base "table_from" 13 ["size", "length", "answers"] (ct_table_from cP cT) := by
  obtain ⟨f, fd, F, hm⟩ := V.t (tn "table_from" 38) (by decide +kernel)
  refine def_ok F hm (F.binds (ps := ["size", "length", "answers"]) fun _ _ _ _ _ _ us hl => match us, hl with | [_, _, _], _ => rfl) sc_table_from (fun n ds Kp hc => ?_) (fun cdv A outer s H E W n ds Kp hr hc => ?_)
  · obtain ⟨_, _, _, rfl, _⟩ := hc
    rfl
  · obtain ⟨a0, a1, a2, rfl, l, f, rfl, rfl, rfl, l12, ok, st, hc⟩ := hc
    refine ss_cons (sn_ret (SF.se (sf_make h1 (hr.mono (by decide)) (sa_cons (se_va 0 (sa_cons (se_va 1 (sa_cons (se_va 2 (sa_nil ?_))))))))))
    exact ⟨_, _, _, rfl, l, f, rfl, rfl, rfl, l12, ok, st, hc⟩
def ct_need_table (cP cT : Addr) : CT := c1 fun n a0 Kp => ∃ (l : Int) (a : D), a0 = tabD cT l a ∧ Kp n .non
theorem sc_need_table : FnScope ["thing"] ["thing"] (defScope (topS 39)) := ⟨rfl, rfl, rfl, by decide +kernel, rfl, by decide +kernel, by decide +kernel⟩
theorem nd_need_table : List.Nodup (["thing"] : List Str) := by decide +kernel
theorem d_need_table (V : Ev K mg cP cT)  : DefOk P w K mg base "need_table" 2 ["thing"] (ct_need_table cP cT) := by
  obtain ⟨f, fd, F, hm⟩ := V.t (tn "need_table" 39) (by decide +kernel)
  refine def_ok F hm (F.binds (ps := ["thing"]) fun _ _ _ _ _ _ us hl => match us, hl with | [_], _ => rfl) sc_need_table (fun n ds Kp hc => ?_) (fun cdv A outer s H E W n ds Kp hr hc => ?_)
  · obtain ⟨_, rfl, _⟩ := hc
    rfl
  · obtain ⟨a0, rfl, l, a, rfl, hc⟩ := hc
    refine ss_cons (sn_if (st_not (st_val (se_isC (V.b _ (by decide +kernel)) V.mT (sb_nm 0 ?_)))))
    refine ⟨_, true, ⟨rfl, V.oT⟩, kit_self, _, rfl, ?_⟩
    exact ss_nil (ss_nil hc)
def ct_need_fitting (cP cT : Addr) : CT := c2 fun n a0 a1 Kp => ∃ (w : Str) (l a b s : Int) (an : D), a0 = panelD cP w l a b s ∧ a1 = tabD cT l an ∧ Kp n .non
theorem sc_need_fitting : FnScope ["panel", "table"] ["panel", "table"] (defScope (topS 40)) := ⟨rfl, rfl, rfl, by decide +kernel, rfl, by decide +kernel, by decide +kernel⟩
theorem nd_need_fitting : List.Nodup (["panel", "table"] : List Str) := by decide +kernel
theorem d_need_fitting (V : Ev K mg cP cT)  : DefOk P w K mg base "need_fitting" 2 ["panel", "table"] (ct_need_fitting cP cT) := by
  obtain ⟨f, fd, F, hm⟩ := V.t (tn "need_fitting" 40) (by decide +kernel)
  refine def_ok F hm (F.binds (ps := ["panel", "table"]) fun _ _ _ _ _ _ us hl => match us, hl with | [_, _], _ => rfl) sc_need_fitting (fun n ds Kp hc => ?_) (fun cdv A outer s H E W n ds Kp hr hc => ?_)
  · obtain ⟨_, _, rfl, _⟩ := hc
    rfl
  · obtain ⟨a0, a1, rfl, w, l, a, b, s, an, rfl, rfl, hc⟩ := hc
    refine ss_cons (sn_if (SW.st (sw_or (st_cmp (sc_ne hr.units (SE.sb (se_fld (sb_nm 1 ?_))))))))
    refine ⟨_, _, _, _, rfl, V.oT.cl, V.nT _ (by decide +kernel), rfl, SE.sb (se_len (V.b _ (by decide +kernel)) (SE.sb (se_fld (sb_nm 0 ?_))))⟩
    refine ⟨_, _, _, _, rfl, V.oP.cl, V.nP _ (by decide +kernel), rfl, 1, rfl, rfl, rfl, ?_⟩
    refine sw_one (st_cmp (sc_ne hr.units (SE.sb (se_fld (sb_nm 1 ?_)))))
    refine ⟨_, _, _, _, rfl, V.oT.cl, V.nT _ (by decide +kernel), rfl, SE.sb (se_fld (sb_nm 0 ?_))⟩
    refine ⟨_, _, _, _, rfl, V.oP.cl, V.nP _ (by decide +kernel), rfl, rfl, rfl, ?_⟩
    rw [eqD_int]
    exact ss_nil (ss_nil hc)
end
end Sk
set_option maxHeartbeats 4000000
/-! F17: translators judged, tables translated. -/
namespace Sk
open PySem PySem.Spec PyProof.Rows L2
def srcAt (a b l : Int) (h : T) : List T := (aget (srcs a b l).1 (srcs a b l).2 h).getD []
def readOk (a b l c d : Int) (f : TD T) (h : T) : Bool := okT l h && (decide (h ∈ (srcs a b l).1) && (okT l (vAt f h) && isRead c d l (srcAt a b l h) h (vAt f h)))
def isReader (a b l c d : Int) (f : TD T) : Bool := decide (f.1.length = (srcs a b l).1.length) && f.1.all (readOk a b l c d f)
def translStep (f g : TD T) (h : TD T) (t : T) : TD T := (aputK h.1 t, aputV h.1 h.2 t (vAt g (vAt f t)))
def transl (f g : TD T) : TD T := g.1.foldl (translStep f g) ([], [])
theorem rd_get {f : TD T} {t : T} (hl : f.1.length = f.2.length) (h : t ∈ f.1) : dget (f.1.map tD) (f.2.map tD) (tD t) = some (tD (vAt f t)) := by
  rw [dget_map tD_cod, (led_get hl h).1]
  rfl
theorem rd_getD (f : TD T) (t : T) : (dget (f.1.map tD) (f.2.map tD) (tD t)).getD .non = tD (vAt f t) := by
  rw [dget_map tD_cod]
  unfold vAt
  cases aget f.1 f.2 t <;> rfl
theorem src_in {a b l : Int} {h : T} (hl : (srcs a b l).1.length = (srcs a b l).2.length) : (dget ((srcs a b l).1.map tD) ((srcs a b l).2.map lD) (tD h)).isSome = decide (h ∈ (srcs a b l).1) := by
  rw [dget_map tD_cod, Option.isSome_map]
  exact (aget_in hl).trans (decide_eq_decide.mpr Iff.rfl)
section
variable {P : Program} {w : World} {K : PySem.W.Frag} {mg : Str → Option Value} {base : Heap} {cP cT : Addr}
def ct_is_reader (cP cT : Addr) : CT := c4 fun n a0 a1 a2 a3 Kp => ∃ (w : Str) (l a b s c d s' : Int) (f : TD T), a0 = panelD cP w l a b s ∧ a1 = panelD cP w l c d s' ∧ a2 = .int 0 ∧ a3 = rD f ∧ Sm a b l ∧ Sm c d l ∧ f.1.length = f.2.length ∧ Kp n (.bl (isReader a b l c d f))
theorem sc_is_reader : FnScope ["one", "other", "at", "thing", "length", "by_time", "heard"] ["one", "other", "at", "thing"] (defScope (topS 51)) := ⟨rfl, rfl, rfl, by decide +kernel, rfl, by decide +kernel, by decide +kernel⟩
theorem nd_is_reader : List.Nodup (["one", "other", "at", "thing", "length", "by_time", "heard"] : List Str) := by decide +kernel
theorem d_is_reader (V : Ev K mg cP cT) (h1 : DefOk P w K mg base "sources_by" 4 ["pair", "length"] ct_sources_by) (h2 : DefOk P w K mg base "is_time" 5 ["thing", "length"] ct_is_time) (h3 : DefOk P w K mg base "is_read" 4 ["pair", "length", "sources", "heard", "read"] ct_is_read) : DefOk P w K mg base "is_reader" 6 ["one", "other", "at", "thing"] (ct_is_reader cP cT) := by
  obtain ⟨f, fd, F, hm⟩ := V.t (tn "is_reader" 51) (by decide +kernel)
  refine def_ok F hm (F.binds (ps := ["one", "other", "at", "thing"]) fun _ _ _ _ _ _ us hl => match us, hl with | [_, _, _, _], _ => rfl) sc_is_reader (fun n ds Kp hc => ?_) (fun cdv A outer s H E W n ds Kp hr hc => ?_)
  · obtain ⟨_, _, _, _, rfl, _⟩ := hc
    rfl
  · obtain ⟨a0, a1, a2, a3, rfl, w, l, a, b, sl, c, d, sl', f, rfl, rfl, rfl, rfl, sm, sm2, fl, hc⟩ := hc
    obtain ⟨q1, q2, q3, q4, q5⟩ := id sm
    refine ss_cons (sn_set 4 nd_is_reader (se_fld (sb_nm 0 ?_)))
    refine ⟨_, _, _, _, rfl, V.oP.cl, V.nP _ (by decide +kernel), rfl, ?_⟩
    refine ss_cons (sn_set 5 nd_is_reader (se_call h1 (hr.mono (by decide)) (sa_cons (se_ix (SE.sb (se_fld (sb_nm 0 ?_)))))))
    refine ⟨_, _, _, _, rfl, V.oP.cl, V.nP _ (by decide +kernel), rfl, sb_nm 2 ?_⟩
    refine ⟨_, .tup (by decide) rfl, sa_cons (se_va 4 (sa_nil ?_))⟩
    refine ⟨_, _, rfl, a, b, l, rfl, rfl, sm, fun good => ?_⟩
    refine ss_cons (sn_if (SW.st (sw_or (st_not (st_val (se_isB (n := "dict") (V.b _ (by decide +kernel)) (V.b _ (by decide +kernel)) PyProof.Rows.boot_dict (sb_nm 3 ?_)))))))
    refine ⟨_, true, rfl, kit_ty (by decide +kernel), _, rfl, ?_⟩
    refine sw_one (st_cmp (sc_ne hr.units (SE.sb (se_len (V.b _ (by decide +kernel)) (sb_nm 3 ?_)))))
    refine ⟨f.1.length, by show some (f.1.map tD).length = _; rw [List.length_map], SE.sb (se_len (V.b _ (by decide +kernel)) (sb_nm 5 ?_))⟩
    refine ⟨(srcs a b l).1.length, by show some ((srcs a b l).1.map tD).length = _; rw [List.length_map], rfl, rfl, ?_⟩
    have e0 : eqD (.int ((f.1.length : Nat) : Int)) (.int (((srcs a b l).1.length : Nat) : Int)) = decide (f.1.length = (srcs a b l).1.length) := by
      have h := eqD_tD (some ((f.1.length : Nat) : Int)) (some (((srcs a b l).1.length : Nat) : Int))
      refine h.trans (decide_eq_decide.mpr ⟨fun z => ?_, fun z => by rw [z]⟩)
      have := Option.some.inj z
      omega
    rw [e0]
    unfold isReader at hc
    cases ed : decide (f.1.length = (srcs a b l).1.length) with
    | false =>
      rw [ed, Bool.false_and] at hc
      exact ss_cons (sn_ret (se_bl hc))
    | true =>
      rw [ed, Bool.true_and] at hc
      have elen : f.1.length = (srcs a b l).1.length := of_decide_eq_true ed
      have few := good.few
      refine ss_nil (ss_cons (sn_for .never rfl (si_dict (se_va 3 ?_))))
      refine ⟨_, _, rfl, fun k m s => m = n ∧ ((f.1.take k).all (readOk a b l c d f)) = true ∧ ∃ x, s = [.va (panelD cP w l a b sl), .va (panelD cP w l c d sl'), .va (.int 0), .va (rD f), .va (.int l), .va (dD (srcs a b l)), x], ⟨rfl, rfl, _, rfl⟩, fun k d' m s γ hd hJ => ?_, fun m s hJ => ?_⟩
      · obtain ⟨rfl, ha, x, rfl⟩ := hJ
        obtain ⟨t, et, rfl⟩ := get_map hd
        have gd := rd_get fl (List.mem_of_getElem? et)
        have eb : readOk a b l c d f t = (okT l t && (decide (t ∈ (srcs a b l).1) && (okT l (vAt f t) && isRead c d l (srcAt a b l t) t (vAt f t)))) := rfl
        refine sg_nm 6 ?_ nd_is_reader
        refine ss_cons (sn_if (STt.imp (K := fun n' k => n' = m ∧ k = !(okT l t && (decide (t ∈ (srcs a b l).1) && okT l (vAt f t)))) ?_ fun n' k ⟨e1, e2⟩ => ?_))
        · refine SW.st (sw_or (st_not (st_val (se_call h2 (hr.mono (by decide)) (sa_cons (se_va 6 (sa_cons (se_va 4 (sa_nil ?_)))))))))
          refine ⟨_, _, rfl, t, l, rfl, rfl, _, rfl, ?_⟩
          cases eo : okT l t with
          | false => exact ⟨rfl, rfl⟩
          | true =>
            refine sw_or (st_dnotin (u9 hr) (se_va 6 (sb_nm 5 ⟨_, _, rfl, tD_kok, ?_⟩)))
            show if (!(dget ((srcs a b l).1.map tD) ((srcs a b l).2.map lD) (tD t)).isSome) = true then _ else _
            rw [src_in good.len]
            cases em : decide (t ∈ (srcs a b l).1) with
            | false => exact ⟨rfl, rfl⟩
            | true =>
              refine sw_one (st_not (st_val (se_call h2 (hr.mono (by decide)) (sa_cons (se_dix (u9 hr) (sb_nm 3 (se_va 6 ?_)))))))
              refine ⟨_, _, _, rfl, tD_kok, gd, sa_cons (se_va 4 (sa_nil ?_))⟩
              exact ⟨_, _, rfl, vAt f t, l, rfl, rfl, _, rfl, rfl, rfl⟩
        · subst e1 e2
          cases eo : (okT l t && (decide (t ∈ (srcs a b l).1) && okT l (vAt f t))) with
          | false =>
            have e3 : readOk a b l c d f t = false := by
              rw [eb]
              cases h1 : okT l t <;> cases h2 : decide (t ∈ (srcs a b l).1) <;> cases h3 : okT l (vAt f t) <;> rw [h1, h2, h3] at eo <;> first | rfl | cases eo
            rw [tb1 et e3] at hc
            exact ss_cons (sn_ret (se_bl hc))
          | true =>
            have hm : t ∈ (srcs a b l).1 := by
              cases h1 : okT l t <;> cases h2 : decide (t ∈ (srcs a b l).1) <;> rw [h1, h2] at eo <;> first | cases eo; done | exact of_decide_eq_true h2
            have eg : aget (srcs a b l).1 (srcs a b l).2 t = some (srcAt a b l t) := by
              unfold srcAt
              have z := ((aget_in (k := t) good.len).trans (decide_eq_decide.mpr Iff.rfl)).trans (decide_eq_true hm)
              cases e : aget (srcs a b l).1 (srcs a b l).2 t with
              | none => rw [e] at z; cases z
              | some v => rfl
            have mss := aget_mem eg
            refine ss_nil (ss_cons (sn_if (st_not (st_val (se_call h3 (hr.mono (by decide)) (sa_cons (se_ix (SE.sb (se_fld (sb_nm 1 ?_))))))))))
            refine ⟨_, _, _, _, rfl, V.oP.cl, V.nP _ (by decide +kernel), rfl, sb_nm 2 ?_⟩
            refine ⟨_, .tup (by decide) rfl, sa_cons (se_va 4 (sa_cons (se_dix (u9 hr) (sb_nm 5 (se_va 6 ?_)))))⟩
            refine ⟨_, _, lD (srcAt a b l t), rfl, tD_kok, by rw [dget_map tD_cod, eg]; rfl, sa_cons (se_va 6 (sa_cons (se_dix (u9 hr) (sb_nm 3 (se_va 6 ?_)))))⟩
            refine ⟨_, _, _, rfl, tD_kok, gd, sa_nil ?_⟩
            refine ⟨_, _, _, _, _, rfl, c, d, l, srcAt a b l t, t, vAt f t, rfl, rfl, rfl, rfl, rfl, sm2, srcs_ok _ mss, good.each _ mss, _, rfl, ?_⟩
            have e3 : readOk a b l c d f t = isRead c d l (srcAt a b l t) t (vAt f t) := by
              rw [eb]
              cases h1 : okT l t <;> cases h2 : decide (t ∈ (srcs a b l).1) <;> cases h3 : okT l (vAt f t) <;> rw [h1, h2, h3] at eo <;> first | rfl | cases eo
            cases er : isRead c d l (srcAt a b l t) t (vAt f t) with
            | false =>
              rw [er] at e3
              rw [tb1 et e3] at hc
              exact ss_cons (sn_ret (se_bl hc))
            | true =>
              rw [er] at e3
              exact ss_nil (ss_nil ⟨rfl, rfl, tb0 et ha e3, _, rfl⟩)
      · obtain ⟨rfl, ha, x, rfl⟩ := hJ
        rw [List.length_map, List.take_length] at ha
        rw [ha] at hc
        exact ss_cons (sn_ret (se_bl hc))
def ct_is_translator_of (cP cT : Addr) : CT := c3 fun n a0 a1 a2 Kp => ∃ (w : Str) (l a b s c d s' : Int) (f : TD T), a0 = panelD cP w l a b s ∧ a1 = panelD cP w l c d s' ∧ a2 = trD w f ∧ s ≤ s' ∧ Sm a b l ∧ Sm c d l ∧ f.1.length = f.2.length ∧ Kp n (.bl (isReader a b l c d f))
theorem sc_is_translator_of : FnScope ["one", "other", "thing", "name", "at"] ["one", "other", "thing"] (defScope (topS 52)) := ⟨rfl, rfl, rfl, by decide +kernel, rfl, by decide +kernel, by decide +kernel⟩
theorem nd_is_translator_of : List.Nodup (["one", "other", "thing", "name", "at"] : List Str) := by decide +kernel
theorem d_is_translator_of (V : Ev K mg cP cT) (h1 : DefOk P w K mg base "is_reader" 6 ["one", "other", "at", "thing"] (ct_is_reader cP cT)) : DefOk P w K mg base "is_translator_of" 8 ["one", "other", "thing"] (ct_is_translator_of cP cT) := by
  obtain ⟨f, fd, F, hm⟩ := V.t (tn "is_translator_of" 52) (by decide +kernel)
  refine def_ok F hm (F.binds (ps := ["one", "other", "thing"]) fun _ _ _ _ _ _ us hl => match us, hl with | [_, _, _], _ => rfl) sc_is_translator_of (fun n ds Kp hc => ?_) (fun cdv A outer s H E W n ds Kp hr hc => ?_)
  · obtain ⟨_, _, _, rfl, _⟩ := hc
    rfl
  · obtain ⟨a0, a1, a2, rfl, w, l, a, b, sl, c, d, sl', f, rfl, rfl, rfl, ss, sm, sm2, fl, hc⟩ := hc
    refine ss_cons (sn_if (SW.st (sw_or (st_cmp (sc_gt (SE.sb (se_fld (sb_nm 0 ?_))))))))
    refine ⟨_, _, _, _, rfl, V.oP.cl, V.nP _ (by decide +kernel), rfl, SE.sb (se_fld (sb_nm 1 ?_))⟩
    refine ⟨_, _, _, _, rfl, V.oP.cl, V.nP _ (by decide +kernel), rfl, _, _, rfl, rfl, ?_⟩
    rw [if_neg (by rw [decide_eq_false (by omega : ¬ sl' < sl)]; exact Bool.false_ne_true)]
    refine sw_or (st_not (st_val (se_isB (n := "dict") (V.b _ (by decide +kernel)) (V.b _ (by decide +kernel)) PyProof.Rows.boot_dict (sb_nm 2 ?_))))
    refine ⟨_, true, rfl, kit_ty (by decide +kernel), _, rfl, ?_⟩
    refine sw_one (st_cmp (sc_ne hr.units (SE.sb (se_len (V.b _ (by decide +kernel)) (sb_nm 2 ?_)))))
    refine ⟨1, rfl, SE.sb (se_len (V.b _ (by decide +kernel)) (SE.sb (se_fld (sb_nm 0 ?_))))⟩
    refine ⟨_, _, _, _, rfl, V.oP.cl, V.nP _ (by decide +kernel), rfl, 1, rfl, rfl, rfl, ?_⟩
    refine ss_nil (ss_cons (sn_if (st_not (st_val (se_all (V.b _ (by decide +kernel)) rfl (SE.sb (SL.se (sl_lcM (α := Unit) 3 rfl nd_is_translator_of (si_tup (se_fld (sb_nm 0 ?_)))))))))))
    refine ⟨_, _, _, _, rfl, V.oP.cl, V.nP _ (by decide +kernel), rfl, _, rfl, [()], fun _ => .str w, fun _ => .bl true, rfl, by decide, fun _ _ γ W' hg s Hb C cl fp Kq hq => ?_, [true], rfl, _, rfl, ?_⟩
    · refine se_din (u9 hr) (se_va 3 (sb_nm 2 ?_))
      refine ⟨_, _, rfl, str_kok (ks := [w]), ?_⟩
      rw [dget_str]
      exact hq
    refine ss_nil (ss_cons (sn_ret (se_all (V.b _ (by decide +kernel)) rfl (SE.sb (SL.se (sl_lc2M (α := Unit) 4 3 rfl nd_is_translator_of (by decide) (si_enum (V.b _ (by decide +kernel)) (sa_cons (se_fld (sb_nm 0 ?_))))))))))
    refine ⟨_, _, _, _, rfl, V.oP.cl, V.nP _ (by decide +kernel), rfl, sa_nil ⟨true, [.str w], rfl, [()], fun _ => (.int 0, .str w), fun _ => .bl (isReader a b l c d f), rfl, by decide, fun _ _ γ W' hg s Hb C cl fp Kq hq => ?_, [isReader a b l c d f], rfl, ?_⟩⟩
    · refine se_call h1 (hr.mono (by decide)) (sa_cons (se_va 0 (sa_cons (se_va 1 (sa_cons (se_va 4 (sa_cons (se_dix (u9 hr) (sb_nm 2 (se_va 3 ?_))))))))))
      refine ⟨_, _, rD f, rfl, str_kok (ks := [w]), dget_str, sa_nil ?_⟩
      exact ⟨_, _, _, _, rfl, w, l, a, b, sl, c, d, sl', f, rfl, rfl, rfl, rfl, sm, sm2, fl, hq⟩
    show Kp n (.bl ([isReader a b l c d f].all id))
    rw [List.all_cons, List.all_nil, Bool.and_true]
    exact hc
end
end Sk
set_option maxHeartbeats 4000000
/-! F18: tables translated. -/
namespace Sk
open PySem PySem.Spec PyProof.Rows L2
theorem transl_len (f g : TD T) : ∀ (ts : List T) (h : TD T), h.1.length = h.2.length → (ts.foldl (translStep f g) h).1.length = (ts.foldl (translStep f g) h).2.length ∧ (ts.foldl (translStep f g) h).1.length ≤ h.1.length + ts.length
  | [], h, e => ⟨e, Nat.le_refl _⟩
  | t :: ts, h, e => by
    have e1 : (translStep f g h t).1.length = (translStep f g h t).2.length := aput_len e
    have e2 : (translStep f g h t).1.length ≤ h.1.length + 1 := aputK_len
    obtain ⟨h1, h2⟩ := transl_len f g ts (translStep f g h t) e1
    rw [List.foldl_cons, List.length_cons]
    exact ⟨h1, by omega⟩
section
variable {P : Program} {w : World} {K : PySem.W.Frag} {mg : Str → Option Value} {base : Heap} {cP cT : Addr}
def ct_translated (cP cT : Addr) : CT := c4 fun n a0 a1 a2 a3 Kp => ∃ (w : Str) (l a b s c d s' : Int) (f g : TD T), a0 = panelD cP w l a b s ∧ a1 = panelD cP w l c d s' ∧ a2 = trD w f ∧ a3 = tabD cT l (ledD g) ∧ WOk w ∧ s ≤ s' ∧ Sm a b l ∧ Sm c d l ∧ f.1.length = f.2.length ∧ isReader a b l c d f = true ∧ (l = 1 ∨ l = 2) ∧ g.1.length = g.2.length ∧ g.1.length ≤ 1000 ∧ (∀ t ∈ g.1, vAt f t ∈ g.1) ∧ AnsOk l (transl f g) ∧ steady l (transl f g) = true ∧ Kp n (tabD cT l (ledD (norm l (transl f g))))
theorem sc_translated : FnScope ["one", "other", "translator", "table", "readers", "answers", "row", "read", "name", "reader", "heard"] ["one", "other", "translator", "table"] (defScope (topS 53)) := ⟨rfl, rfl, rfl, by decide +kernel, rfl, by decide +kernel, by decide +kernel⟩
theorem nd_translated : List.Nodup (["one", "other", "translator", "table", "readers", "answers", "row", "read", "name", "reader", "heard"] : List Str) := by decide +kernel
theorem d_translated (V : Ev K mg cP cT) (h1 : DefOk P w K mg base "need_panels" 4 ["one", "other"] (ct_need_panels cP cT)) (h2 : DefOk P w K mg base "is_translator_of" 8 ["one", "other", "thing"] (ct_is_translator_of cP cT)) (h3 : DefOk P w K mg base "need_table" 2 ["thing"] (ct_need_table cP cT)) (h4 : DefOk P w K mg base "need_fitting" 2 ["panel", "table"] (ct_need_fitting cP cT)) (h5 : DefOk P w K mg base "table_from" 13 ["size", "length", "answers"] (ct_table_from cP cT)) : DefOk P w K mg base "translated" 15 ["one", "other", "translator", "table"] (ct_translated cP cT) := by
  obtain ⟨f, fd, F, hm⟩ := V.t (tn "translated" 53) (by decide +kernel)
  refine def_ok F hm (F.binds (ps := ["one", "other", "translator", "table"]) fun _ _ _ _ _ _ us hl => match us, hl with | [_, _, _, _], _ => rfl) sc_translated (fun n ds Kp hc => ?_) (fun cdv A outer s H E W n ds Kp hr hc => ?_)
  · obtain ⟨_, _, _, _, rfl, _⟩ := hc
    rfl
  · obtain ⟨a0, a1, a2, a3, rfl, w, l, a, b, sl, c, d, sl', f, g, rfl, rfl, rfl, rfl, wok, ss, sm, sm2, fl, isr, l12, gl, few, into, ok, st, hc⟩ := hc
    refine ss_cons (sn_expr (se_call h1 (hr.mono (by decide)) (sa_cons (se_va 0 (sa_cons (se_va 1 (sa_nil ?_)))))))
    refine ⟨_, _, rfl, w, l, a, b, sl, c, d, sl', rfl, rfl, wok, ?_⟩
    refine ss_cons (sn_if (st_not (st_val (se_call h2 (hr.mono (by decide)) (sa_cons (se_va 0 (sa_cons (se_va 1 (sa_cons (se_va 2 (sa_nil ?_)))))))))))
    refine ⟨_, _, _, rfl, w, l, a, b, sl, c, d, sl', f, rfl, rfl, rfl, ss, sm, sm2, fl, _, rfl, ?_⟩
    rw [isr]
    refine ss_nil (ss_cons (sn_expr (se_call h3 (hr.mono (by decide)) (sa_cons (se_va 3 (sa_nil ?_))))))
    refine ⟨_, rfl, l, _, rfl, ?_⟩
    refine ss_cons (sn_expr (se_call h4 (hr.mono (by decide)) (sa_cons (se_va 1 (sa_cons (se_va 3 (sa_nil ?_)))))))
    refine ⟨_, _, rfl, w, l, c, d, sl', _, rfl, rfl, ?_⟩
    refine ss_cons (sn_parVF 4 5 rfl nd_translated (by decide) (SL.se (sl_lcM (α := Unit) 8 rfl nd_translated (si_tup (se_fld (sb_nm 0 ?_))))))
    refine ⟨_, _, _, _, rfl, V.oP.cl, V.nP _ (by decide +kernel), rfl, _, rfl, [()], fun _ => .str w, fun _ => rD f, rfl, by decide, fun _ _ γ W' hg s Hb C cl fp Kq hq => ?_, sf_dict0 ?_⟩
    · refine se_dix (u9 hr) (sb_nm 2 (se_va 8 ?_))
      exact ⟨_, _, rD f, rfl, str_kok (ks := [w]), dget_str, hq⟩
    refine ss_cons (sn_for .never rfl (si_dict (se_fld (sb_nm 3 ?_))))
    refine ⟨_, _, _, _, rfl, V.oT.cl, V.nT _ (by decide +kernel), rfl, _, _, rfl, fun k m s => m = n ∧ k ≤ g.1.length ∧ ∃ h x y z u v, h = (g.1.take k).foldl (translStep f g) ([], []) ∧ s = [.va (panelD cP w l a b sl), .va (panelD cP w l c d sl'), .va (trD w f), .va (tabD cT l (ledD g)), .va (.lst [rD f]), .ow (ledD h), x, y, z, u, v], ⟨rfl, Nat.zero_le _, ([], []), _, _, _, _, _, rfl, rfl⟩, fun k d' m s γ hd hJ => ?_, fun m s hJ => ?_⟩
    · obtain ⟨rfl, hk, h, x, y, z, u, v, eh, rfl⟩ := hJ
      obtain ⟨t, et, rfl⟩ := get_map hd
      have kl : k < g.1.length := (List.getElem?_eq_some_iff.mp et).1
      have tm := List.mem_of_getElem? et
      have gd := (led_get gl (into t tm)).2
      obtain ⟨lh1, lh2⟩ := transl_len f g (g.1.take k) ([], []) rfl
      rw [← eh] at lh1 lh2
      have lh3 : h.1.length ≤ 1000 := by
        have : (g.1.take k).length ≤ g.1.length := by rw [List.length_take]; exact Nat.min_le_right _ _
        have e0 : ([] : List T).length = 0 := rfl
        have lh2 : h.1.length ≤ ([] : List T).length + (g.1.take k).length := lh2
        omega
      refine sg_nm 6 ?_ nd_translated
      refine ss_cons (sn_set 7 nd_translated (se_tuple (V.b _ (by decide +kernel)) (SE.sb (SL.se (sl_lc2M (α := Unit) 9 10 rfl nd_translated (by decide) (si_zip (V.b _ (by decide +kernel)) (sa_cons (se_va 4 (sa_cons (se_va 6 (sa_nil ?_)))))))))))
      refine ⟨false, true, [rD f], [tD t], rfl, [()], fun _ => (rD f, tD t), fun _ => tD (vAt f t), rfl, by decide, fun _ _ γ' W' hg s Hb C cl fp Kq hq => ?_, _, .inl rfl, ?_⟩
      · refine se_dget1 (u9 hr) (sb_nm 9 ⟨_, _, rfl, se_va 10 ⟨tD_kok, ?_⟩⟩)
        rw [rd_getD]
        exact hq
      refine ss_cons (sn_dset 5 (u9 hr) (se_dix (u9 hr) (SE.sb (se_fld (sb_nm 3 ?_)))))
      refine ⟨_, _, _, _, rfl, V.oT.cl, V.nT _ (by decide +kernel), rfl, se_va 7 ⟨_, _, _, rfl, rw1_kok (k := vAt f t), gd, se_va 6 ⟨rw1_kok, by rw [List.length_map]; omega, ss_nil ⟨rfl, rfl, kl, translStep f g h t, .va (rw1 t), .va (rw1 (vAt f t)), z, u, v, ?_, ?_⟩⟩⟩⟩
      · rw [foldl_take_succ _ _ et, ← eh]
      · show [Sl.va (panelD cP w l a b sl), .va (panelD cP w l c d sl'), .va (trD w f), .va (tabD cT l (ledD g)), .va (.lst [rD f]), .ow (.dct (dputK (h.1.map rw1) (rw1 t)) (dputV (h.1.map rw1) (h.2.map tD) (rw1 t) (tD (vAt g (vAt f t))))), .va (rw1 t), .va (rw1 (vAt f t)), z, u, v] = _
        rw [dputK_map rw1_cod, dputV_map rw1_cod]
        rfl
    · obtain ⟨rfl, hk, h, x, y, z, u, v, eh, rfl⟩ := hJ
      rw [List.length_map, List.take_length] at eh
      have eh : h = transl f g := eh
      subst eh
      refine ss_freeze 5 (ss_cons (sn_ret (se_call h5 (hr.mono (by decide)) (sa_cons (se_fld (sb_nm 3 ?_))))))
      refine ⟨_, _, _, _, rfl, V.oT.cl, V.nT _ (by decide +kernel), rfl, sa_cons (se_fld (sb_nm 3 ?_))⟩
      refine ⟨_, _, _, _, rfl, V.oT.cl, V.nT _ (by decide +kernel), rfl, sa_cons (se_va 5 (sa_nil ?_))⟩
      exact ⟨_, _, _, rfl, l, transl f g, rfl, rfl, rfl, l12, ok, st, hc⟩
end
end Sk
set_option maxHeartbeats 4000000
/-! S32: sorted(rows, key=lambda x: repr(x)). -/
namespace Sk
open PySem PySem.Spec PyProof.Rows L2
/-- what the lambda's names are -/
structure KeyS (scope : Scope) (each : Str) : Prop where
  kind : scope.kind = .function
  co : scope.isCoroutine = false
  gen : scope.isGenerator = false
  cell : ∀ y ∈ scope.names, y.2 ≠ .cell
  own : scope.names.lookup each = some .local
  glo : scope.names.lookup (Str.ofString "repr") = some NameKind.globalImplicit
  free : ∀ y ∈ scope.names, y.2 ≠ .free
section
variable {X : Cx} {pins : List (Addr × Obj)} {σ : L2.St} {H : Hp} {s : Shared}
theorem lam_key (I : Inv X pins σ H s) (hg : X.A.guards = some []) (hr : Room 4 X.A) {f c' a : Addr} {qual each : Str} {params : Arguments} {scope : Scope} {pm ctv : Value} {p1 p2 p3 : Pos}
    (hf : s.heap.get? f = some (PySem.W.kla_obj "<lambda>" qual params (.Call (.Name "repr" p1) [.Name each p2] [] p3) scope [] pm c' ctv)) (hco : H c' = some (LamX.CodeO c' qual)) (mr : X.mg "repr" = none) (S : KeyS scope each) (hdb : (each == ("__debug__" : Str)) = false)
    (hb : ∀ v, bindArgs (PySem.W.kla_fn "<lambda>" qual params (.Call (.Name "repr" p1) [.Name each p2] [] p3) scope [] pm (.ref c') ctv) ⟨[v], []⟩ = pure [(each, v)])
    {d : PyData} {as : List Addr} (rd : Reads s.heap (.ref a) d as) (sh : d.showable = true) (nd : d.hasDict = false) (dp : d.depth ≤ 8) (sz : d.shown.length ≤ sizeLine) {h : Heap} {tk : Nat} (kp : ∀ b o, s.heap.get? b = some o → h.get? b = some o) :
    wpAny (model X.prog X.w) X.A.in1.in1 (call (.ref f) [.ref a]) (PySem.W.KeyPure (.str d.shown) { s with heap := h, toks := tk }) (fun _ _ => False) { s with heap := h, toks := tk } := by
  have I1 : Inv X pins σ H { s with heap := h, toks := tk } := I.kept kp
  obtain ⟨⟨oc, vs, t, hoc, hdc, hvc⟩, _⟩ := I1.hok c' _ hco
  have hdep := hr.dp
  have hun := hr.un
  refine wpAny_call (PySem.W.kla_callFunE (by show X.A.depth < recursionLimit; omega) (kp f _ hf) rfl S.co S.gen rfl ⟨c', oc, vs, t, rfl, hoc, hdc, hvc⟩ ?_)
  rw [hb]
  refine wpAny_pure (wpAny_newFunctionEnv S.cell (fun y hy => ?_) (fun h₁ hns hsb => ⟨I1.nolimit.fresh _ hsb, ?_⟩) S.kind)
  · have e : y = (each, Value.ref a) := by simpa using hy
    rw [e]
    exact S.own
  have kp1 : ∀ b o, h.get? b = some o → h₁.get? b = some o := fun b o e => hsb.extBut b o (Nat.ne_of_lt (Heap.lt_size e)) (Heap.get?_push_of_some _ e)
  obtain ⟨mb, g1, g2⟩ := I1.mod.blt
  refine PySem.W.kla_codeExpr (wpAny_Call_Name_kw (Calls.Name_function_global S.kind S.glo (Calls.loadGlobal_builtin (mg := X.mg) (mb := mb) ((I1.mod.glob.keeps I1.bk).keeps kp1) mr ((g1.keeps I1.bk).keeps kp1) ((g2 "repr" (by decide)).trans PyProof.Rows.boot_repr) ?_)))
  refine callWith_builtin1 (wpAny_Name (wpAny_loadName_local (v := .ref a) S.kind S.own hns (by simp [List.lookup_cons]) ?_) hdb)
  refine repr_of_reads' rd sh (PyData.noDict_hsm nd) hg (by show X.A.units + 1 + 1 + 3 + (d.depth + 1) < cLine; omega) (fun b o e => kp1 b o (kp b o e)) (fun h' u tk' kp2 => ?_) sz
  exact ⟨h', tk', rfl, fun b o e => kp2 b o (kp1 b o e), .str _ _⟩
end
end Sk
set_option maxHeartbeats 4000000
/-! S33: sorted(rows, key=lambda x: repr(x)), told of data. -/
namespace Sk
open PySem PySem.Spec PyProof.Rows L2
/-- one tuple after the other by their texts -/
def byText (ds : List D) : Prop := ds.Pairwise fun x y => PySem.W.dataLe false (fun d : D => PyData.str d.py.shown) x y = true
structure RowOk (d : D) : Prop where
  tup : ∃ xs, d = .tup xs
  flat : d.flat = true
  show_ : d.py.showable = true
  nod : d.py.hasDict = false
  dep : d.py.depth ≤ 8
  len : d.py.shown.length ≤ sizeLine
theorem each_rep {Kf : PySem.W.Frag} {w : World} {g : G} {H : Hp} {F : Addr → Prop} : ∀ {ds : List D} {vs : List V} {us : List Value}, RepL Kf w g H F ds vs → Vals vs us → PySem.W.EachIs (fun (u : Value) (d : D) => ∃ x, RelV x u ∧ Rep Kf w g H F d x) us ds
  | [], vs, us, h, r => by
    have e : vs = [] := h
    subst e
    cases r
    exact .nil
  | d :: ds, vs, us, ⟨v, r', e, h1, h2⟩, r => by
    subst e
    cases r with
    | cons r1 r2 => exact .cons ⟨v, r1, h1⟩ (each_rep h2 r2)
theorem rep_each {Kf : PySem.W.Frag} {w : World} {g : G} {H : Hp} {F : Addr → Prop} : ∀ {ds : List D} {us : List Value}, PySem.W.EachIs (fun (u : Value) (d : D) => ∃ x, RelV x u ∧ Rep Kf w g H F d x) us ds → ∃ vs, Vals vs us ∧ RepL Kf w g H F ds vs
  | _, _, .nil => ⟨[], .nil, rfl⟩
  | _, _, .cons ⟨x, h1, h2⟩ t => by
    obtain ⟨vs, r, h⟩ := rep_each t
    exact ⟨x :: vs, .cons h1 r, x, vs, rfl, h2, h⟩
section
variable {X : Cx} {pins : List (Addr × Obj)} {σ : L2.St} {H : Hp} {s : Shared}
/-- a lambda without free names is made; all that was tracked stays but the table of its maker -/
theorem lam_new {T : List (Addr × Str)} {c P : Addr} {params : Arguments} {body : Expr} {scope : Scope} {pos : Pos} {E : Value → Shared → Prop} {Q : Value → Shared → Prop} (I : Inv X pins σ H s) (TB : LamX.TabB X.base X.mg c P) (hc : X.env.code = .ref c) (hT : LamX.Tabs T H)
    (hm : (P, X.env.qual ++ "<lambda>") ∈ T) (one : ∀ p ∈ T, p.1 = P → p.2 = X.env.qual ++ "<lambda>") (hd : defaultsOf params X.env = ([], [])) (fr : ∀ y ∈ scope.names, y.2 ≠ .free)
    (h : ∀ (f k : Addr) (pm ct : Value) (H1 : Hp) (s1 : Shared), Inv X pins σ H1 s1 → (∀ b o, H b = some o → b ≠ P → H1 b = some o) → LamX.Tabs T H1 →
      s1.heap.get? f = some (PySem.W.kla_obj "<lambda>" (X.env.qual ++ "<lambda>") params body scope [] pm k ct) → H1 k = some (LamX.CodeO k (X.env.qual ++ "<lambda>")) → Q (.ref f) s1) :
    wpAny (model X.prog X.w) X.A (eval (.Lambda params body scope pos) X.env) Q E s := by
  obtain ⟨tb, t1, t2, t3⟩ := hT _ hm
  have cl0 : cloFrom X.env.cells scope.names [] = [] := by
    have gen : ∀ l : List (Str × NameKind), (∀ y ∈ l, y.2 ≠ .free) → cloFrom X.env.cells l [] = [] := by
      intro l
      induction l with
      | nil => exact fun _ => rfl
      | cons y l ih =>
        intro hy
        have n1 := hy y List.mem_cons_self
        have n2 := ih fun z hz => hy z (List.mem_cons_of_mem _ hz)
        obtain ⟨y1, y2⟩ := y
        cases y2 <;> first | exact n2 | exact absurd rfl n1
    exact gen _ fr
  have clo := closure_ok (env := X.env) (scope := scope) fun y hy e => absurd e (fr y hy)
  rw [cl0] at clo
  have gl : s.heap.Ns mainGlobals X.mg := I.mod.glob.keeps I.bk
  have tabP : s.heap.get? P = some { cls := .none, data := .fields tb } := I.hok P _ t1
  refine PySem.W.kla_eval hd ?_
  cases found : codeAmong pos tb.toList with
  | some cv =>
    obtain ⟨k, ek, hk⟩ := t3 pos cv found
    subst ek
    refine PySem.W.kla_makeFunctionHit (clos := []) (c := c) (P := P) (ps := tb) clo I.ok.glob gl hc (TB.code.keeps I.bk) tabP t2 found (TB.bm.keeps I.bk) fun ct h' tk keep _ => ?_
    exact h _ k _ ct H _ (I.kept fun b o e => Heap.get?_push_of_some _ (keep b o e)) (fun b o e _ => e) hT (Heap.get?_push_size _ rfl) hk
  | none =>
    refine PySem.W.kla_makeFunction (clos := []) (c := c) (P := P) (ps := tb) clo I.ok.glob gl hc (TB.code.keeps I.bk) tabP t2 found TB.gP (TB.bm.keeps I.bk) fun k ct h' tk keep new lt rec tab' => ?_
    obtain ⟨k2, oc, cv, t, e2, c1, c2, c3⟩ := rec
    cases e2
    have freshK : H k = none := I.hok.fresh new
    have J := LamX.inv_table (t' := tk) (q := X.env.qual ++ "<lambda>") (more := #[rawInt pos.line, rawInt pos.col, .ref k]) (h' := h'.push (PySem.W.kla_obj "<lambda>" (X.env.qual ++ "<lambda>") params body scope [] ((X.mg "__name__").getD .none) k ct)) I t1
      (fun b o nb e => Heap.get?_push_of_some _ (keep b o nb e)) (Heap.get?_push_of_some _ tab') new ⟨oc, cv, t, Heap.get?_push_of_some _ c1, c2, c3⟩
    have stay : ∀ b o, H b = some o → b ≠ P → upd (upd H P (.tbl (tb ++ #[rawInt pos.line, rawInt pos.col, .ref k]))) k (LamX.CodeO k (X.env.qual ++ "<lambda>")) b = some o := fun b o e nb => by
      rw [upd_ne (ne_of_none e freshK), upd_ne nb]
      exact e
    have codeNe : ∀ b q, H b = some (LamX.CodeO b q) → b ≠ P := fun b q e z => by
      rw [z, t1] at e
      exact LamX.codeO_ne tb (Option.some.inj e).symm
    refine h _ k _ ct _ _ J stay (fun p hp => ?_) (Heap.get?_push_size _ rfl) upd_same
    by_cases same : p.1 = P
    · have el : (tb ++ #[rawInt pos.line, rawInt pos.col, .ref k]).toList = tb.toList ++ [rawInt pos.line, rawInt pos.col, .ref k] := by simp
      refine ⟨tb ++ #[rawInt pos.line, rawInt pos.col, .ref k], ?_, ?_, fun pos' cw hcw => ?_⟩
      · rw [same, upd_ne (ne_of_none t1 freshK)]
        exact upd_same
      · rw [el]
        exact PySem.TriplesOk_snoc _ _ _ _ t2
      · rw [el] at hcw
        rw [one p hp same]
        rcases LamX.among_app _ t2 hcw with z | z
        · obtain ⟨k0, z1, z2⟩ := t3 pos' cw z
          exact ⟨k0, z1, stay _ _ z2 (codeNe _ _ z2)⟩
        · exact ⟨k, z, upd_same⟩
    · obtain ⟨ps, u1, u2, u3⟩ := hT p hp
      refine ⟨ps, stay _ _ u1 same, u2, fun pos' cw hcw => ?_⟩
      obtain ⟨k0, z1, z2⟩ := u3 pos' cw hcw
      exact ⟨k0, z1, stay _ _ z2 (codeNe _ _ z2)⟩
end
section
variable {X : Cx} {W : Fm} {ρ : En} {K : Nat → D → Prop} {e : Expr} {pos p1 p2 p3 p4 p5 kp : Pos}
/-- sorted(e, key=lambda x: repr(x)), e a list of tuples that is in order -/
theorem sf_sortedRepr {T : List (Addr × Str)} {c P : Addr} {each : Str} {params : Arguments} {scope : Scope} (hW : ∃ p, W.g = some p ∧ p.2.2.2 = T) (hgd : X.A.guards = some []) (hr : Room 4 X.A) (TB : LamX.TabB X.base X.mg c P) (hcode : X.env.code = .ref c)
    (hmT : (P, X.env.qual ++ "<lambda>") ∈ T) (one : ∀ p ∈ T, p.1 = P → p.2 = X.env.qual ++ "<lambda>") (ms : X.mg "sorted" = none) (mr : X.mg "repr" = none) (S : KeyS scope each) (hdb : (each == ("__debug__" : Str)) = false)
    (hb : ∀ qual pm c' ctv v, bindArgs (PySem.W.kla_fn "<lambda>" qual params (.Call (.Name "repr" p2) [.Name each p3] [] p4) scope [] pm (.ref c') ctv) ⟨[v], []⟩ = pure [(each, v)]) (hdf : defaultsOf params X.env = ([], []))
    (h : SE X W ρ e fun n d => ∃ ds, d = .lst ds ∧ ds.length ≤ 1000 ∧ (∀ x ∈ ds, RowOk x) ∧ byText ds ∧ K n (.lst ds)) (hg : Gl X "sorted" := by rfl) (hs : starEach [e] X.env = (false, eval e X.env) :: starEach [] X.env := by rfl)
    (he : backTo pos (starEach [e] X.env) = (false, eval e X.env) :: backTo pos (starEach [] X.env) := by rfl) (hpl : (backTo pos (starEach [e] X.env)).any (·.1) = false := by rfl) :
    SF X W ρ (.Call (.Name "sorted" p1) [e] [⟨some "key", .Lambda params (.Call (.Name "repr" p2) [.Name each p3] [] p4) scope p5, kp⟩] pos) K := fun pins s σ H I r => by
  refine wpAny_Call_Name_kw (ld_blt I hg ms PyProof.Rows.boot_sorted ?_)
  refine PyProof.Rows.callWith_kw (kws := [⟨some "key", .Lambda params (.Call (.Name "repr" p2) [.Name each p3] [] p4) scope p5, kp⟩]) (thn ((pa_cons (pe_X (W := W) (ρ := ρ)) pa_nil hs).run pos pins s σ H (fun vs H1 => ∃ v n ds, vs = [v] ∧ SameG W.g H H1 ∧ RE X.K X.w W H1 σ (ρ.to n) ∧ Rep X.K X.w W.g H1 (Fb W.O σ ρ.s) (.lst ds) v ∧ ds.length ≤ 1000 ∧ (∀ x ∈ ds, RowOk x) ∧ byText ds ∧ K n (.lst ds)) I
    ⟨ρ.n, r, _, h, fun v H1 n d s1 r1 p1 ⟨ds, ed, k1, k2, k3, k4⟩ => by subst ed; exact ⟨v, n, ds, rfl, s1, r1, p1, k1, k2, k3, k4⟩⟩) fun us s1 ⟨vs, H1, I1, rv, v, n, ds, ev, sm1, r1, rp, len, rows, txt, k⟩ => ?_) he hpl
  subst ev
  obtain ⟨u, rfl, ru⟩ := vals1 rv
  obtain ⟨p, hp, ep⟩ := hW
  obtain ⟨q1, q2, q3, q4⟩ := r1.src p hp
  have tabs : LamX.Tabs T H1 := ep ▸ q4.tb
  show wpAny _ _ (evalAll ((do let v ← eval (.Lambda params (.Call (.Name "repr" p2) [.Name each p3] [] p4) scope p5) X.env; standAt pos; pure v) :: [])) _ _ s1
  refine wpAny_evalAll_cons (wpAny_bind (lam_new I1 TB hcode tabs hmT one hdf S.free fun f k' pm ct H2 s2 I2 stay tabs2 hf hk' => wpAny_bind (wpAny_standAt (wpAny_pure (wpAny_evalAll_nil ?_)))))
  -- the table has changed at most
  have sm2 : SameG W.g H1 H2 := fun a o e na => stay a o e fun z => (na p hp).2.2 _ (ep ▸ hmT) z
  have tne : ∀ a, H1 a ≠ none → (∀ ps, H1 a ≠ some (.tbl ps)) → a ≠ P := fun a n1 n2 z => by
    obtain ⟨ps, z1, _⟩ := tabs _ hmT
    exact n2 ps (z ▸ z1)
  have src2 : ∀ q, W.g = some q → SrcOk X.K H2 q n := fun q hq => by
    rw [hp] at hq
    cases hq
    obtain ⟨⟨L, C, rr, tt, z1, z2, z3, z4⟩, _⟩ := q4
    refine ⟨⟨L, C, rr, tt, stay _ _ z1 (tne _ (by rw [z1]; simp) fun ps z => ?_), stay _ _ z2 (tne _ (by rw [z2]; simp) fun ps z => ?_), stay _ _ z3 (tne _ (by rw [z3]; simp) fun ps z => ?_), z4⟩, ep ▸ tabs2⟩
    · rw [z1] at z; cases z
    · rw [z2] at z; cases z
    · rw [z3] at z; cases z
  have r2 : RE X.K X.w W H2 σ (ρ.to n) := r1.step (n := n) sm2 src2
  have rp2 := r1.rep' sm2 rp
  obtain ⟨a, vs, ea, nf, ha, rl⟩ := rp2
  subst ea
  obtain rfl : u = .ref a := ru
  obtain ⟨its, rvs, ⟨o, n0, ho, hcl, hdd, hdat⟩, hz⟩ := I2.list (SqL.of (K := X.K) ha)
  have each0 := each_rep rl rvs
  have hun := hr.un
  show wpAny (model X.prog X.w) X.A (call (.builtin "sorted") [.ref a] [(Str.ofString "key", .ref f)]) _ _ s2
  refine PySem.W.sorted_key_data (b := false) (f := .ref f) (fun d : D => PyData.str d.py.shown) ⟨o, ho, hcl, n0, hdat⟩ each0 (PySem.W.AllAlike.of fun _ _ => by simp [PySem.W.alike]) (PySem.W.Sortable.others fun _ => ⟨by simp, by simp⟩) (by rw [sizeLine_eq]; omega)
    (fun x _ => by show X.A.units + 2 + 0 < cLine; omega) (ksk_s1 _ _) (fun _ => ksk_l1 _ _) (fun _ => ksk_t1 _ _) (fun v d ⟨x, rx, rpx⟩ hd h tk kp' => ?_) fun out c' h' tk keep fresh get lout eout => ?_
  · have ok := rows d hd
    obtain ⟨xs, exs⟩ := ok.tup
    obtain ⟨as, rd⟩ := Dp.reads I2 d.py x v (Rep.dp d x ok.flat rpx) rx
    have ex : ∃ b, x = .ref b := by
      subst exs
      obtain ⟨b, _, eb, _⟩ := rpx
      exact ⟨b, eb⟩
    obtain ⟨b, rfl⟩ := ex
    obtain rfl : v = .ref b := rx
    exact lam_key I2 hgd hr hf hk' mr S hdb (hb _ _ _ _) rd ok.show_ ok.nod ok.dep ok.len kp'
  · rw [List.mergeSort_of_pairwise txt] at eout
    obtain ⟨vs', rv', rl'⟩ := rep_each eout
    have hp2 : H2 (s2.heap.objs.size + 1) = none := I2.hok.fresh (Nat.le_succ _)
    have hp0 : H (s2.heap.objs.size + 1) = none := r.free r2 (sm1.trans sm2) _ hp2
    have nsame := same_new (o := .lst vs') hp2
    have lv := rl'.length
    refine ⟨s2.heap.objs.size + 1, _, n, .lst ds, I2.laid (a := s2.heap.objs.size + 1) (o := .lst vs') (t' := tk) keep (Nat.le_succ _) ⟨by rw [← lv, sizeLine_eq]; omega, out, c', rv', get⟩, rfl, (sm1.trans sm2).trans (.of nsame), hp0, r2.stay nsame, r2.addNew hp2, ⟨vs', upd_same, ?_⟩, k⟩
    refine r2.repL (.of nsame) (fun b u' nb eb z => ?_) (fun _ => fb_O) rl'
    rcases z with z | z
    · rcases List.mem_cons.mp z with z | z
      · subst z
        rw [hp2] at eb
        cases eb
      · exact nb (.inl z)
    · exact nb (.inr z)
end
end Sk
set_option maxHeartbeats 4000000
/-! S34: defs that show things: no showing is under way when they are called; the tables of code objects are known. -/
namespace Sk
open PySem PySem.Spec PyProof.Rows L2
/-- the source's tables are T -/
def HasT (g : G) (T : List (Addr × Str)) : Prop := ∃ p, g = some p ∧ p.2.2.2 = T
def spG (K : PySem.W.Frag) (w : World) (T : List (Addr × Str)) (ct : CT) : Sp := fun vs H Q _ => ∃ (g : G) (O : List Addr) (n : Nat) (ds : List D) (Kp : Nat → D → Prop), HasT g T ∧ Cal K g O H n ∧ RepL K w g H (· ∈ O) ds vs ∧ ct n ds Kp ∧
  ∀ v H' n' d, SameG g H H' → Cal K g O H' n' → Rep K w g H' (· ∈ O) d v → Kp n' d → Q v H'
structure RunG (P : Program) (w : World) (K : PySem.W.Frag) (mg : Str → Option Value) (base : Heap) (k : Nat) (f : Addr) (fd : FuncData) (ps : List Str) (sp : Sp) : Prop where
  len : ∀ vs H Q E, sp vs H Q E → vs.length = ps.length
  run : ∀ (A : Around) (outer : List Env) (s : Shared) (H : Hp) (us : List Value) (vs : List V) (Q : VK) (E : XK), Room k A → A.guards = some [] → Env0 P w K mg base A outer s H → BindsTo s fd ⟨us, []⟩ (ps.zip us) → Vals vs us → sp vs H Q E →
    codeAny (model P w) A (.call (.ref f) ⟨us, []⟩) (CR CX0 outer P w H s Q E) s
/-- a def whose code object is at c -/
structure FunC (K : PySem.W.Frag) (x qual : Str) (st : Stmt) (f : Addr) (fd : FuncData) (c : Value) : Prop where
  ex : ∃ (oc : Value) (od : Option Addr) (kV doc pm : Value) (an : Option Addr) (ct : Value) (osl : Array (Option Value)),
    fd = PySem.W.fnOf x qual (defArgs st) (defBody st) (defScope st) .none kV doc pm an c ct ∧ K.lookup f = some ⟨oc, od, .func fd, osl⟩ ∧ PySem.W.codeIn K c qual = true
  kp : PySem.W.keepIn K (.ref f) = true
theorem FunC.fun {K : PySem.W.Frag} {x qual : Str} {st : Stmt} {f : Addr} {fd : FuncData} {c : Value} (F : FunC K x qual st f fd c) : Fun K x qual st f fd := by
  obtain ⟨⟨oc, od, kV, doc, pm, an, ct, osl, h⟩, kp⟩ := F
  exact ⟨⟨oc, od, kV, doc, pm, an, c, ct, osl, h⟩, kp⟩
theorem Fun.funC {K : PySem.W.Frag} {x qual : Str} {st : Stmt} {f : Addr} {fd : FuncData} (F : Fun K x qual st f fd) : ∃ c, FunC K x qual st f fd c := by
  obtain ⟨⟨oc, od, kV, doc, pm, an, c, ct, osl, h⟩, kp⟩ := F
  exact ⟨c, ⟨oc, od, kV, doc, pm, an, ct, osl, h⟩, kp⟩
theorem runG_of {P : Program} {w : World} {K : PySem.W.Frag} {mg : Str → Option Value} {base : Heap} {x qual : Str} {st : Stmt} {f : Addr} {c : Value} {fd : FuncData} {N ps : List Str} {k : Nat} {sp : Sp} (F : FunC K x qual st f fd c) (S : FnScope N ps (defScope st)) (len : ∀ vs H Q E, sp vs H Q E → vs.length = ps.length)
    (body : ∀ (A : Around) (outer : List Env) (s : Shared) (H : Hp) (vs : List V) (Q : VK) (E : XK), Room k (A.deeper (envOfC qual (defScope st) s.heap.objs.size f c)) → A.guards = some [] → sp vs H Q E →
      ∃ t, PSs (cxOf CX0 P w K mg base N qual (defScope st) f c A outer s H E).nox (defBody st) t ∧ t { nx := fun _ H' => Q .non H', rt := Q } (L2.start N vs) H) : RunG P w K mg base (k + 1) f fd ps sp := by
  obtain ⟨⟨oc, od, kV, doc, pm, an, ct, osl, rfl, lk, hcd⟩, kp⟩ := F
  refine ⟨len, fun A outer s H us vs Q E hr hg e0 hb r hsp => ?_⟩
  have within : K.In s.heap := e0.mod.kin.keeps fun b o z => (e0.bs b o z).1
  have nolim := e0.mod.nolimit.keeps fun b o z => (e0.bs b o z).1
  refine codeAny_call_function hr.depth (within _ _ lk) rfl S.co S.gen rfl (PySem.W.codeRec_of within hcd) (hb _ _ _ _ ?_)
  refine wpAny_newFunctionEnv_cells S.kind (fun y hy => ?_) fun env he s1 inn => ?_
  · rcases S.par y.1 (List.of_mem_zip (show (y.1, y.2) ∈ ps.zip us from hy)).1 with z | z
    · exact .inl z
    · exact .inr ⟨z, PySem.W.cellsFrom_some _ _ _ (.inl z)⟩
  · subst he
    obtain ⟨t, ht, hq⟩ := body A outer s H vs Q E (hr.deeper _) hg hsp
    have I := inv_start (CX := CX0) (E := E) S hr.hd e0 (len _ _ _ _ hsp) r inn
    refine ⟨nolim.keeps inn.toInCall.keep, codeAny_func (wpAny_mono (ht.nox.run [] s1 (L2.start N vs) H _ I hq) (fun fl s' z => ?_) fun _ _ z => z)⟩
    have done : ∀ {σ' : L2.St} {H' : Hp} {v : V} {u : Value}, Inv (cxOf CX0 P w K mg base N qual (defScope st) f c A outer s H E) [] σ' H' s' → RelV v u → Q v H' → CE outer P w H s Q u s' := fun {σ' H' v u} J rv q => ⟨v, H', J.os, J.bare, J.base, J.hok, rv, q⟩
    cases fl with
    | next =>
      obtain ⟨σ', H', J, q⟩ := z
      exact done (v := V.non) (u := Value.none) J rfl q
    | ret u =>
      obtain ⟨v, σ', H', J, rv, q⟩ := z
      exact done J rv q
    | brk =>
      obtain ⟨_, _, _, q⟩ := z
      exact q.elim
    | cont =>
      obtain ⟨_, _, _, q⟩ := z
      exact q.elim
/-- the def x keeps the contract when no showing is under way -/
def DefG (P : Program) (w : World) (K : PySem.W.Frag) (mg : Str → Option Value) (base : Heap) (T : List (Addr × Str)) (x : Str) (k : Nat) (ps : List Str) (ct : CT) : Prop :=
  ∃ f fd, RunG P w K mg base k f fd ps (spG K w T ct) ∧ mg x = some (.ref f) ∧ PySem.W.keepIn K (.ref f) = true ∧ Binds K fd ps []
section
variable {X : Cx} {W : Fm} {ρ : En} {K : Nat → D → Prop} {e : Expr} {es : List Expr} {pos p1 : Pos}
theorem Fol.callG {T : List (Addr × Str)} {ct : CT} {σ : L2.St} {H : Hp} {vs : List V} {ds : List D} {Q : VK} (hW : HasT W.g T) (f : Fol X W ρ σ H K Q) (r : RE X.K X.w W H σ ρ) (h : RepL X.K X.w W.g H (Fb W.O σ ρ.s) ds vs) (hc : ct ρ.n ds K) (E : XK) : spG X.K X.w T ct vs H Q E := by
  refine ⟨W.g, W.O ++ ownsOf σ ρ.s, ρ.n, ds, K, hW, ⟨fun p e => ?_, fun a ha => ?_⟩, ?_, hc, fun v H' n' d s c hr k => ?_⟩
  · obtain ⟨h1, h2, h3, h4⟩ := r.src p e
    exact ⟨List.mem_append_left _ h1, List.mem_append_left _ h2, ⟨List.mem_append_left _ h3.1, fun t ht => List.mem_append_left _ (h3.2 t ht)⟩, h4⟩
  · rcases List.mem_append.mp ha with z | z
    · exact r.tr a z
    · obtain ⟨i, d, e1, e2⟩ := mem_owns.mp z
      obtain ⟨a', e3, _, _, c⟩ := r.slot i _ e1
      rw [e2] at e3
      cases e3
      exact c.there
  · exact r.repL (.refl W.g H) (fun b _ n _ z => n (fb_iff.mpr z)) (fun _ => fb_O) h
  · have r1 := r.step (n := n') s fun p e => (c.src p e).2.2.2
    refine f v H' n' d s r1 (Rep.mono (fun _ _ e => e) (fun _ _ _ e => e) (fun b o n e => ⟨e, fun z => n (fb_iff.mp z)⟩) _ _ hr) k
theorem se_callG {T : List (Addr × Str)} {x : Str} {k : Nat} {ps : List Str} {ct : CT} (hD : DefG X.prog X.w X.K X.mg X.base T x k ps ct) (hr : Room k X.A) (hgd : X.A.guards = some []) (hW : HasT W.g T) (h : SA X W ρ (e :: es) fun n ds => ct n ds K) (hg : Gl X x := by rfl)
    (hdb : (x == ("__debug__" : Str)) = false := by decide) (he : starEach (e :: es) X.env = (false, eval e X.env) :: starEach es X.env := by rfl) (hpl : (backTo pos (starEach es X.env)).any (·.1) = false := by rfl) : SE X W ρ (.Call (.Name x p1) (e :: es) [] pos) K := fun pins s σ H I r => by
  obtain ⟨f, fd, F, hm, hk, hb⟩ := hD
  refine wpAny_Call_Name_kw (ld_glob I hg hm (PySem.W.callWith_K (h₀ := X.base) I.ok.mod.kin hk (thn (h pos pins s σ H I r) fun us s1 ⟨vs, H1, n, ds, I1, rv, sm, r1, rl, hc⟩ => ⟨I1.kIn, ?_⟩) he hpl) hdb)
  have hsp : spG X.K X.w T ct vs H1 (fun v H' => ∃ n d, SameG W.g H H' ∧ RE X.K X.w W H' σ (ρ.to n) ∧ Rep X.K X.w W.g H' (Fb W.O σ ρ.s) d v ∧ K n d) E0 :=
    Fol.callG (ρ := ρ.to n) hW (fun v H' m d a b c' k' => ⟨m, d, sm.trans a, b, c', k'⟩) r1 rl hc E0
  have lu : us.length = ps.length := by rw [← rv.length]; exact F.len _ _ _ _ hsp
  have hb1 := hb s1 us I1.kIn (by rw [List.append_nil]; exact lu)
  rw [List.append_nil] at hb1
  refine wpAny_call (codeAny_mono (F.run X.A X.stack s1 H1 us vs _ E0 hr hgd I1.env0 hb1 rv hsp) fun z s' hq => ?_)
  cases z with
  | error e' => exact pass0 pins σ H1 s1 e' s' I1 hq
  | ok fl =>
    cases fl with
    | ret u =>
      obtain ⟨v, H', I', rv', m, d, a1, a2, a3, a4⟩ := I1.after hq
      exact ⟨v, H', m, d, I', rv', a1, a2, a3, a4⟩
    | next => exact hq.elim
    | brk => exact hq.elim
    | cont => exact hq.elim
end
/-- THE RULE for a def that shows things -/
theorem def_okG {P : Program} {w : World} {K : PySem.W.Frag} {mg : Str → Option Value} {base : Heap} {T : List (Addr × Str)} {x : Str} {st : Stmt} {f : Addr} {c : Value} {fd : FuncData} {N ps : List Str} {k : Nat} {ct : CT} (F : FunC K x x st f fd c) (hm : mg x = some (.ref f)) (hb : Binds K fd ps [])
    (S : FnScope N ps (defScope st)) (len : ∀ n ds Kp, ct n ds Kp → ds.length = ps.length)
    (body : ∀ (A : Around) (outer : List Env) (s : Shared) (H : Hp) (E : XK) (W : Fm) (n : Nat) (ds : List D) (Kp : Nat → D → Prop), Room k (A.deeper (envOfC x (defScope st) s.heap.objs.size f c)) → A.guards = some [] → HasT W.g T → ct n ds Kp →
      SS (cxOf CX0 P w K mg base N x (defScope st) f c A outer s H E).nox W ⟨n, startD N ds, []⟩ (defBody st) ⟨fun ρ' => Kp ρ'.n .non, Kp, fun _ => False, fun _ => False⟩) : DefG P w K mg base T x (k + 1) ps ct := by
  refine ⟨f, fd, runG_of F S (fun vs H Q E h => ?_) (fun A outer s H vs Q E hr hg h => ?_), hm, F.kp, hb⟩
  · obtain ⟨g, O, n, ds, Kp, _, _, hR, hc, _⟩ := h
    rw [← hR.length]
    exact len n ds Kp hc
  · obtain ⟨g, O, n, ds, Kp, hT, cal, hR, hc, q⟩ := h
    refine ⟨_, pss_X (W := ⟨g, O, H⟩), ⟨_, re_start cal hR, _, body A outer s H E ⟨g, O, H⟩ n ds Kp hr hg hT hc, ⟨fun σ' H' ρ' r' k' => ?_, fun v H' n' d rt rp k' => ?_, fun _ _ _ _ z => z.elim, fun _ _ _ _ z => z.elim⟩⟩⟩
    · exact q .non H' ρ'.n .non r'.same ⟨r'.src, r'.tr⟩ rfl k'
    · exact q v H' n' d rt.same ⟨rt.src, rt.tr⟩ rp k'
end Sk
set_option maxHeartbeats 4000000
/-! F19: looks, in order. -/
namespace Sk
open PySem PySem.Spec PyProof.Rows L2
def looks (beats : List T) (tick : Int) : List T := (dictA (beats.map fun t => (seenU (some tick) t, ()))).1
/-- in order: at most one, or a moment and never -/
def okL : List T → Bool
  | [] => true
  | [_] => true
  | [some i, none] => decide (0 ≤ i) && decide (i ≤ 9)
  | _ => false
def smallT : T → Bool
  | none => true
  | some i => decide (0 ≤ i) && decide (i ≤ 9)
theorem row_ok {t : T} (h : smallT t = true) : RowOk (rw1 t) := by
  cases t with
  | none => exact ⟨⟨_, rfl⟩, by decide +kernel, by decide +kernel, by decide +kernel, by decide +kernel, by decide +kernel⟩
  | some i =>
    have h' : (decide (0 ≤ i) && decide (i ≤ 9)) = true := h
    rw [Bool.and_eq_true] at h'
    have h0 := of_decide_eq_true h'.1
    have h9 := of_decide_eq_true h'.2
    have all : ∀ k : Nat, k < 10 → (rw1 (some (k : Int))).flat = true ∧ (rw1 (some (k : Int))).py.showable = true ∧ (rw1 (some (k : Int))).py.hasDict = false ∧ (rw1 (some (k : Int))).py.depth ≤ 8 ∧ (rw1 (some (k : Int))).py.shown.length ≤ sizeLine := by decide +kernel
    obtain ⟨k, rfl⟩ : ∃ k : Nat, i = (k : Int) := ⟨i.toNat, by omega⟩
    obtain ⟨a1, a2, a3, a4, a5⟩ := all k (by omega)
    exact ⟨⟨_, rfl⟩, a1, a2, a3, a4, a5⟩
theorem okL_text {L : List T} (h : okL L = true) : byText (L.map rw1) := by
  unfold byText
  match L, h with
  | [], _ => exact List.Pairwise.nil
  | [_], _ => exact List.pairwise_singleton _ _
  | [some i, none], h =>
    have h' : (decide (0 ≤ i) && decide (i ≤ 9)) = true := h
    rw [Bool.and_eq_true] at h'
    have h0 := of_decide_eq_true h'.1
    have h9 := of_decide_eq_true h'.2
    have all : ∀ k : Nat, k < 10 → PySem.W.dataLe false (fun d : D => PyData.str d.py.shown) (rw1 (some (k : Int))) (rw1 none) = true := by decide +kernel
    obtain ⟨k, rfl⟩ : ∃ k : Nat, i = (k : Int) := ⟨i.toNat, by omega⟩
    refine List.Pairwise.cons (fun y hy => ?_) (List.pairwise_singleton _ _)
    have e : y = rw1 none := by simpa using hy
    rw [e]
    exact all k (by omega)
theorem eqD_rw1 (a b : T) : eqD (rw1 a) (rw1 b) = decide (a = b) := by
  have h := eqD_tD a b
  show (PyData.eqv (tD a).py (tD b).py && true) = _
  rw [Bool.and_true]
  exact h
theorem okE_rw1 (t : T) : (rw1 t).okE = true := by cases t <;> rfl
theorem looks_len (beats : List T) (tick : Int) : (looks beats tick).length ≤ beats.length := by
  unfold looks dictA
  have gen : ∀ (l : List (T × Unit)) (a : List T × List Unit), (l.foldl (fun a p => (aputK a.1 p.1, aputV a.1 a.2 p.1 p.2)) a).1.length ≤ a.1.length + l.length := by
    intro l
    induction l with
    | nil => exact fun a => Nat.le_refl _
    | cons p l ih =>
      intro a
      have h1 := ih (aputK a.1 p.1, aputV a.1 a.2 p.1 p.2)
      have h2 : (aputK a.1 p.1).length ≤ a.1.length + 1 := aputK_len
      rw [List.foldl_cons, List.length_cons]
      have h1' : _ ≤ (aputK a.1 p.1).length + l.length := h1
      omega
  have := gen (beats.map fun t => (seenU (some tick) t, ())) ([], [])
  rw [List.length_map] at this
  have e : ([] : List T).length = 0 := rfl
  have this : _ ≤ ([] : List T).length + beats.length := this
  omega
def lamQ : Str := (Str.ofString "_law_looks_at" ++ ".<locals>.") ++ "<lambda>"
section
variable {P : Program} {w : World} {K : PySem.W.Frag} {mg : Str → Option Value} {base : Heap} {cP cT : Addr}
def ct_w_looks_at : CT := c2 fun n a0 a1 Kp => ∃ (beats : List T) (tick : Int), a0 = .lst (beats.map rw1) ∧ a1 = .int tick ∧ beats.length ≤ 1000 ∧ okL (looks beats tick) = true ∧ (looks beats tick).all smallT = true ∧ Kp n (.lst ((looks beats tick).map rw1))
theorem sc_w_looks_at : FnScope ["_law_beats", "_law_tick", "_law_looks", "_law_beat"] ["_law_beats", "_law_tick"] (defScope (topS 68)) := ⟨rfl, rfl, rfl, by decide +kernel, rfl, by decide +kernel, by decide +kernel⟩
theorem nd_w_looks_at : List.Nodup (["_law_beats", "_law_tick", "_law_looks", "_law_beat"] : List Str) := by decide +kernel
theorem d_w_looks_at (V : Ev K mg cP cT) (h1 : DefOk P w K mg base "_law_seen" 4 ["_law_beat", "_law_tick"] ct_w_seen) {f c pT : Addr} {fd : FuncData} (F : FunC K "_law_looks_at" "_law_looks_at" (topS 68) f fd (.ref c)) (hm : mg "_law_looks_at" = some (.ref f)) (TB : LamX.TabB base mg c pT) :
    DefG P w K mg base [(pT, lamQ)] "_law_looks_at" 6 ["_law_beats", "_law_tick"] ct_w_looks_at := by
  refine def_okG F hm (F.fun.binds (ps := ["_law_beats", "_law_tick"]) fun _ _ _ _ _ _ us hl => match us, hl with | [_, _], _ => rfl) sc_w_looks_at (fun n ds Kp hc => ?_) (fun A outer s H E W n ds Kp hr hgd hT hc => ?_)
  · obtain ⟨_, _, rfl, _⟩ := hc
    rfl
  · obtain ⟨a0, a1, rfl, beats, tick, rfl, rfl, few, ol, sml, hc⟩ := hc
    refine ss_cons (sn_set 2 nd_w_looks_at (SF.se (sf_dictP (V.b _ (by decide +kernel)) rfl (u12 hr) (SE.sb (SL.se (sl_lcM (α := T) 3 rfl nd_w_looks_at (si_list (se_va 0 ?_))))))))
    refine ⟨_, rfl, beats, rw1, fun t => .tup [rw1 (seenU (some tick) t), .bl true], rfl, by omega, fun t ht γ W' hg s Hb C cl fp Kq hq => ?_, beats.map (fun t => (rw1 (seenU (some tick) t), .bl true)), by rw [List.map_map]; rfl, ?_, by rw [List.length_map]; omega, ?_⟩
    · refine se_tup (sa_cons (se_call h1 (hr.mono (by decide)) (sa_cons (se_va 3 (sa_cons (se_va 1 (sa_nil ?_)))))))
      exact ⟨_, _, rfl, t, tick, rfl, rfl, sa_cons (se_bl (sa_nil ⟨two_le, hq⟩))⟩
    · refine ⟨fun k hk => ?_, .inr fun k hk => ?_⟩
      · rw [List.map_map] at hk
        obtain ⟨t, _, rfl⟩ := List.mem_map.mp hk
        exact ⟨(rw1_key _).1, (rw1_key _).2.1⟩
      · rw [List.map_map] at hk
        obtain ⟨t, _, rfl⟩ := List.mem_map.mp hk
        exact (rw1_key _).2.2
    have e1 : (beats.map fun t => (rw1 (seenU (some tick) t), D.bl true)) = (beats.map fun t => (seenU (some tick) t, ())).map fun p => (rw1 p.1, (fun _ : Unit => D.bl true) p.2) := by
      rw [List.map_map]
      rfl
    rw [e1, dictD_map rw1_cod (f := fun _ : Unit => D.bl true)]
    have ll := looks_len beats tick
    refine ss_cons (sn_ret (SF.se (sf_sortedRepr (T := [(pT, lamQ)]) (c := c) (P := pT) (each := "_law_each") hT hgd (hr.mono (by decide)) TB rfl List.mem_cons_self (fun p hp _ => ?_) (V.b _ (by decide +kernel)) (V.b _ (by decide +kernel)) ⟨rfl, rfl, rfl, by decide +kernel, by decide +kernel, by decide +kernel, by decide +kernel⟩ (by decide) (fun _ _ _ _ _ => rfl) rfl (SF.se (sf_listD (V.b _ (by decide +kernel)) rfl (sb_nm 2 ?_))))))
    · have e : p = (pT, lamQ) := by simpa using hp
      rw [e]
      rfl
    · refine ⟨_, _, rfl, _, rfl, by rw [List.length_map]; show (looks beats tick).length ≤ 1000; omega, fun x hx => ?_, okL_text ol, hc⟩
      obtain ⟨t, ht, rfl⟩ := List.mem_map.mp hx
      exact row_ok (List.all_eq_true.mp sml t ht)
end
end Sk
set_option maxHeartbeats 4000000
/-! F20: all that can be played. -/
namespace Sk
open PySem PySem.Spec PyProof.Rows L2
def mates (beats : List T) (tick : Int) (look : T) : List T := beats.filter fun t => decide (seenU (some tick) t = look)
def mkAll (ts : List T) (v : T) : TD T := dictA (ts.map fun t => (t, v))
def joinF (a b : TD T) : TD T := dictA (a.1.zip a.2 ++ b.1.zip b.2)
def cross (xs ys : List (TD T)) : List (TD T) := xs.flatMap fun a => ys.map (joinF a)
def someOf (pl : Int → List T → List (TD T)) (beats : List T) (tick : Int) (look : T) : List (TD T) := mkAll (mates beats tick look) (some tick) :: pl (tick + 1) (mates beats tick look)
def pStep (pl : Int → List T → List (TD T)) (beats : List T) (tick : Int) (found : List (TD T)) (look : T) : List (TD T) := cross found (someOf pl beats tick look)
def played : Nat → Int → List T → List (TD T)
  | 0, _, beats => [mkAll beats none]
  | k + 1, tick, beats => (looks beats tick).foldl (pStep (played k) beats tick) [([], [])]
def okF (xs : List (TD T)) : Bool := decide (xs.length ≤ 1000) && xs.all fun f => decide (f.1.length = f.2.length) && decide (f.1.length ≤ 100)
def goodP : Nat → Int → List T → Bool
  | 0, _, beats => decide (beats.length ≤ 100)
  | k + 1, tick, beats => decide (beats.length ≤ 100) && (okL (looks beats tick) && ((looks beats tick).all smallT && (((looks beats tick).all fun look => goodP k (tick + 1) (mates beats tick look) && okF (someOf (played k) beats tick look)) &&
    (List.range ((looks beats tick).length + 1)).all fun j => okF (((looks beats tick).take j).foldl (pStep (played k) beats tick) [([], [])]))))
structure OkF (xs : List (TD T)) : Prop where
  few : xs.length ≤ 1000
  len : ∀ f ∈ xs, f.1.length = f.2.length
  each : ∀ f ∈ xs, f.1.length ≤ 100
theorem okF_of {xs : List (TD T)} (h : okF xs = true) : OkF xs := by
  unfold okF at h
  rw [Bool.and_eq_true] at h
  have h2 := List.all_eq_true.mp h.2
  refine ⟨of_decide_eq_true h.1, fun f hf => ?_, fun f hf => ?_⟩
  · have := h2 f hf
    rw [Bool.and_eq_true] at this
    exact of_decide_eq_true this.1
  · have := h2 f hf
    rw [Bool.and_eq_true] at this
    exact of_decide_eq_true this.2
theorem cross_step {xs ys : List (TD T)} {i : Nat} {a : TD T} (h : xs[i]? = some a) : cross (xs.take (i + 1)) ys = cross (xs.take i) ys ++ ys.map (joinF a) := by
  unfold cross
  rw [List.take_add_one, h, List.flatMap_append]
  simp
theorem cross_len (xs ys : List (TD T)) : (cross xs ys).length = xs.length * ys.length := by
  unfold cross
  induction xs with
  | nil => simp
  | cons a xs ih =>
    rw [List.flatMap_cons, List.length_append, ih, List.length_map, List.length_cons, Nat.succ_mul]
    omega
theorem fit_rows (prs : List (T × T)) : FitK ((prs.map fun p => (rw1 p.1, tD p.2)).map Prod.fst) := by
  refine ⟨fun k hk => ?_, .inr fun k hk => ?_⟩
  · rw [List.map_map] at hk
    obtain ⟨t, _, rfl⟩ := List.mem_map.mp hk
    exact ⟨(rw1_key _).1, (rw1_key _).2.1⟩
  · rw [List.map_map] at hk
    obtain ⟨t, _, rfl⟩ := List.mem_map.mp hk
    exact (rw1_key _).2.2
theorem items_led (f : TD T) : itemsD (f.1.map rw1) (f.2.map tD) = ((f.1.zip f.2).map fun p => (rw1 p.1, tD p.2)).map fun p => .tup [p.1, p.2] := by
  unfold itemsD
  rw [List.zip_map]
  rfl
section
variable {P : Program} {w : World} {K : PySem.W.Frag} {mg : Str → Option Value} {base : Heap} {cP cT : Addr}
def ct_w_played (k : Nat) : CT := c3 fun n a0 a1 a2 Kp => ∃ (l tick : Int) (beats : List T), a0 = .int l ∧ a1 = .int tick ∧ a2 = .lst (beats.map rw1) ∧ tick + (k : Nat) = l + 1 ∧ goodP k tick beats = true ∧ Kp n (.lst ((played k tick beats).map ledD))
theorem sc_w_played : FnScope ["_law_top", "_law_tick", "_law_beats", "_law_found", "_law_look", "_law_mates", "_law_some", "_law_longer", "_law_ahead", "_law_led", "_law_beat"] ["_law_top", "_law_tick", "_law_beats"] (defScope (topS 69)) := ⟨rfl, rfl, rfl, by decide +kernel, rfl, by decide +kernel, by decide +kernel⟩
theorem nd_w_played : List.Nodup (["_law_top", "_law_tick", "_law_beats", "_law_found", "_law_look", "_law_mates", "_law_some", "_law_longer", "_law_ahead", "_law_led", "_law_beat"] : List Str) := by decide +kernel
theorem d_w_played (V : Ev K mg cP cT) (h1 : DefOk P w K mg base "_law_seen" 4 ["_law_beat", "_law_tick"] ct_w_seen) {pT : Addr} (h2 : DefG P w K mg base [(pT, lamQ)] "_law_looks_at" 6 ["_law_beats", "_law_tick"] ct_w_looks_at) :
    ∀ k : Nat, DefG P w K mg base [(pT, lamQ)] "_law_played" (8 + k) ["_law_top", "_law_tick", "_law_beats"] (ct_w_played k) := by
  obtain ⟨f, fd, F0, hm⟩ := V.t (tn "_law_played" 69) (by decide +kernel)
  obtain ⟨cd, F⟩ := Fun.funC F0
  intro k
  induction k with
  | zero =>
    refine def_okG F hm (F0.binds (ps := ["_law_top", "_law_tick", "_law_beats"]) fun _ _ _ _ _ _ us hl => match us, hl with | [_, _, _], _ => rfl) sc_w_played (fun n ds Kp hc => ?_) (fun A outer s H E W n ds Kp hr hgd hT hc => ?_)
    · obtain ⟨_, _, _, rfl, _⟩ := hc
      rfl
    · obtain ⟨a0, a1, a2, rfl, l, tick, beats, rfl, rfl, rfl, hk, good, hc⟩ := hc
      have few : beats.length ≤ 100 := of_decide_eq_true good
      refine ss_cons (sn_if (st_cmp (sc_gt (sb_nm 1 (sb_nm 0 ⟨_, _, rfl, rfl, ?_⟩)))))
      rw [if_pos (decide_eq_true (by omega : l < tick))]
      refine ss_cons (sn_ret (se_lst (sa_cons (SF.se (sf_dictP (V.b _ (by decide +kernel)) rfl (u12 hr) (SE.sb (SL.se (sl_lcM (α := T) 10 rfl nd_w_played (si_list (se_va 2 ?_))))))))))
      refine ⟨_, rfl, beats, rw1, fun t => .tup [rw1 t, .non], rfl, by omega, fun t ht γ W' hg s Hb C cl fp Kq hq => ?_, (beats.map fun t => (t, (none : T))).map (fun p => (rw1 p.1, tD p.2)), by rw [List.map_map, List.map_map]; rfl, fit_rows _, by rw [List.length_map, List.length_map]; omega, ?_⟩
      · exact se_tup (sa_cons (se_va 10 (sa_cons (se_non (sa_nil ⟨two_le, hq⟩)))))
      rw [dictD_map rw1_cod]
      exact sa_nil ⟨one_le, hc⟩
  | succ k ih =>
    refine def_okG (k := 8 + k) F hm (F0.binds (ps := ["_law_top", "_law_tick", "_law_beats"]) fun _ _ _ _ _ _ us hl => match us, hl with | [_, _, _], _ => rfl) sc_w_played (fun n ds Kp hc => ?_) (fun A outer s H E W n ds Kp hr hgd hT hc => ?_)
    · obtain ⟨_, _, _, rfl, _⟩ := hc
      rfl
    · obtain ⟨a0, a1, a2, rfl, l, tick, beats, rfl, rfl, rfl, hk, good, hc⟩ := hc
      have good' : (decide (beats.length ≤ 100) && (okL (looks beats tick) && ((looks beats tick).all smallT && (((looks beats tick).all fun look => goodP k (tick + 1) (mates beats tick look) && okF (someOf (played k) beats tick look)) && (List.range ((looks beats tick).length + 1)).all fun j => okF (((looks beats tick).take j).foldl (pStep (played k) beats tick) [([], [])]))))) = true := good
      rw [Bool.and_eq_true, Bool.and_eq_true, Bool.and_eq_true, Bool.and_eq_true] at good'
      obtain ⟨g1, g2, g3, g4, g5⟩ := good'
      have few : beats.length ≤ 100 := of_decide_eq_true g1
      have ll := looks_len beats tick
      have fnd : ∀ j, j ≤ (looks beats tick).length → OkF (((looks beats tick).take j).foldl (pStep (played k) beats tick) [([], [])]) := fun j hj => okF_of (List.all_eq_true.mp g5 j (List.mem_range.mpr (by omega)))
      refine ss_cons (sn_if (st_cmp (sc_gt (sb_nm 1 (sb_nm 0 ⟨_, _, rfl, rfl, ?_⟩)))))
      rw [if_neg (by rw [decide_eq_false (by omega : ¬ l < tick)]; exact Bool.false_ne_true)]
      refine ss_nil (ss_cons (sn_set 3 nd_w_played (se_lst (sa_cons (SF.se (sf_dict0 (sa_nil ⟨one_le, ?_⟩)))))))
      refine ss_cons (sn_for .never rfl (si_list (se_callG h2 (hr.mono (by omega)) hgd hT (sa_cons (se_va 2 (sa_cons (se_va 1 (sa_nil ?_))))))))
      refine ⟨_, _, rfl, beats, tick, rfl, rfl, by omega, g2, g3, _, rfl, ?_⟩
      refine ⟨fun j m s => m = n ∧ j ≤ (looks beats tick).length ∧ ∃ x4 x5 x6 x7 x8 x9 x10, s = [.va (.int l), .va (.int tick), .va (.lst (beats.map rw1)), .va (.lst ((((looks beats tick).take j).foldl (pStep (played k) beats tick) [([], [])]).map ledD)), x4, x5, x6, x7, x8, x9, x10], ⟨rfl, Nat.zero_le _, _, _, _, _, _, _, _, rfl⟩, fun j d m s γ hd hJ => ?_, fun m s hJ => ?_⟩
      · obtain ⟨rfl, hj, x4, x5, x6, x7, x8, x9, x10, rfl⟩ := hJ
        obtain ⟨look, el, rfl⟩ := get_map hd
        have jl : j < (looks beats tick).length := (List.getElem?_eq_some_iff.mp el).1
        have lm := List.mem_of_getElem? el
        have g4' := List.all_eq_true.mp g4 look lm
        rw [Bool.and_eq_true] at g4'
        have some_ok := okF_of g4'.2
        have found_ok := fnd j hj
        generalize hfound : ((looks beats tick).take j).foldl (pStep (played k) beats tick) [([], [])] = found at found_ok ⊢
        have step : ((looks beats tick).take (j + 1)).foldl (pStep (played k) beats tick) [([], [])] = cross found (someOf (played k) beats tick look) := by
          rw [foldl_take_succ _ _ el, hfound]
          rfl
        refine sg_nm 4 ?_ nd_w_played
        refine ss_cons (sn_setLc 5 (sl_lcF (α := T) 10 rfl nd_w_played (si_list (se_va 2 ?_))))
        refine ⟨_, rfl, beats, rw1, rw1, fun t => decide (seenU (some tick) t = look), rfl, by omega, fun t ht γ' W' hg s Hb C cl fp Kq hq => ?_, fun t ht _ γ' W' hg s Hb C cl fp Kq hq => se_va 10 hq, ?_⟩
        · refine st_cmp (sc_eq hr.units (SE.sb (se_call h1 (hr.mono (by omega)) (sa_cons (se_va 10 (sa_cons (se_va 1 (sa_nil ?_))))))))
          refine ⟨_, _, rfl, t, tick, rfl, rfl, sb_nm 4 ⟨okE_rw1 _, okE_rw1 _, ?_⟩⟩
          show Kq _ (eqD (rw1 (seenU (some tick) t)) (rw1 look))
          rw [eqD_rw1]
          exact hq
        have lmt : (mates beats tick look).length ≤ beats.length := List.length_filter_le _ _
        refine ss_cons (sn_set 6 nd_w_played (se_add (SE.sb (se_lst (sa_cons (SF.se (sf_dictP (V.b _ (by decide +kernel)) rfl (u12 hr) (SE.sb (SL.se (sl_lcM (α := T) 10 rfl nd_w_played (si_list (se_va 5 ?_))))))))))))
        refine ⟨_, rfl, mates beats tick look, rw1, fun t => .tup [rw1 t, .int tick], rfl, by omega, fun t ht γ' W' hg s Hb C cl fp Kq hq => ?_, ((mates beats tick look).map fun t => (t, (some tick : T))).map (fun p => (rw1 p.1, tD p.2)), by rw [List.map_map, List.map_map]; rfl, fit_rows _, by rw [List.length_map, List.length_map]; omega, ?_⟩
        · exact se_tup (sa_cons (se_va 10 (sa_cons (se_va 1 (sa_nil ⟨two_le, hq⟩)))))
        rw [dictD_map rw1_cod]
        refine sa_nil ⟨one_le, SE.sb (se_callG ih (hr.mono (by omega)) hgd hT (sa_cons (se_va 0 (sa_cons (se_add (sb_nm 1 ?_))))))⟩
        refine SE.sb (se_int ⟨_, .int, sa_cons (se_va 5 (sa_nil ?_))⟩)
        refine ⟨_, _, _, rfl, l, tick + 1, mates beats tick look, rfl, rfl, rfl, by omega, g4'.1, ?_⟩
        have es : D.lst ([ledD (mkAll (mates beats tick look) (some tick))] ++ (played k (tick + 1) (mates beats tick look)).map ledD) = .lst ((someOf (played k) beats tick look).map ledD) := rfl
        refine ⟨.lst ((someOf (played k) beats tick look).map ledD), ?_, ?_⟩
        · rw [← es]
          refine .lst (xs := [_]) ?_
          have := some_ok.few
          have e2 : (someOf (played k) beats tick look).length = (played k (tick + 1) (mates beats tick look)).length + 1 := rfl
          rw [List.length_map, List.length_singleton, sizeLine_eq]
          omega
        generalize hsome : someOf (played k) beats tick look = sm at some_ok step ⊢
        refine ss_cons (sn_own 7 nd_w_played (sf_lst (sa_nil ⟨nil_le, ?_⟩)))
        refine ss_cons (sn_for .never rfl (si_list (se_va 3 ?_)))
        refine ⟨_, rfl, fun i m' s => m' = m ∧ i ≤ found.length ∧ ∃ x8 x9 x10, s = [.va (.int l), .va (.int tick), .va (.lst (beats.map rw1)), .va (.lst (found.map ledD)), .va (rw1 look), .va (.lst ((mates beats tick look).map rw1)), .va (.lst (sm.map ledD)), .ow (.lst ((cross (found.take i) sm).map ledD)), x8, x9, x10], ⟨rfl, Nat.zero_le _, x8, x9, x10, rfl⟩, fun i d m' s γ' hd hJ => ?_, fun m' s hJ => ?_⟩
        · obtain ⟨rfl, hi, x8, x9, x10, rfl⟩ := hJ
          obtain ⟨a, ea, rfl⟩ := get_map hd
          have il : i < found.length := (List.getElem?_eq_some_iff.mp ea).1
          have am := List.mem_of_getElem? ea
          refine sg_nm 8 ?_ nd_w_played
          refine ss_cons (sn_for .never rfl (si_list (se_va 6 ?_)))
          refine ⟨_, rfl, fun q m2 s => m2 = m' ∧ q ≤ sm.length ∧ ∃ x9 x10, s = [.va (.int l), .va (.int tick), .va (.lst (beats.map rw1)), .va (.lst (found.map ledD)), .va (rw1 look), .va (.lst ((mates beats tick look).map rw1)), .va (.lst (sm.map ledD)), .ow (.lst ((cross (found.take i) sm ++ (sm.take q).map (joinF a)).map ledD)), .va (ledD a), x9, x10], ⟨rfl, Nat.zero_le _, x9, x10, ?_⟩, fun q d m2 s γ2 hd hJ => ?_, fun m2 s hJ => ?_⟩
          · rw [List.take_zero, List.map_nil, List.append_nil]
            rfl
          · obtain ⟨rfl, hq', x9, x10, rfl⟩ := hJ
            obtain ⟨b, eb, rfl⟩ := get_map hd
            have ql : q < sm.length := (List.getElem?_eq_some_iff.mp eb).1
            have bm := List.mem_of_getElem? eb
            have la := found_ok.len a am
            have lb := some_ok.len b bm
            have ea' := found_ok.each a am
            have eb' := some_ok.each b bm
            have f1 := found_ok.few
            have f2 := some_ok.few
            refine sg_nm 9 ?_ nd_w_played
            refine ss_cons (sn_append 7 (SF.se (sf_dictP (V.b _ (by decide +kernel)) rfl (u12 hr) (SE.sb (se_add (SE.sb (se_listItems (V.b _ (by decide +kernel)) rfl (sb_nm 8 ?_))))))))
            refine ⟨_, _, rfl, SE.sb (se_listItems (V.b _ (by decide +kernel)) rfl (sb_nm 9 ?_))⟩
            refine ⟨_, _, rfl, _, .lst ?_, ?_⟩
            · rw [items_led, items_led, List.length_map, List.length_map, List.length_map, List.length_map, List.length_zip, List.length_zip, sizeLine_eq]
              omega
            refine ⟨(a.1.zip a.2 ++ b.1.zip b.2).map fun p => (rw1 p.1, tD p.2), ?_, fit_rows _, ?_, ?_⟩
            · rw [items_led, items_led, List.map_append, List.map_append]
            · rw [List.length_map, List.length_append, List.length_zip, List.length_zip]
              omega
            rw [dictD_map rw1_cod]
            refine ⟨?_, ss_nil ⟨rfl, rfl, ql, .va (ledD b), x10, ?_⟩⟩
            · rw [List.length_map, List.length_append, cross_len, List.length_map, List.length_take, List.length_take]
              have h5 : min i found.length * sm.length ≤ 999 * 1000 := Nat.mul_le_mul (by omega) f2
              omega
            · show [Sl.va (.int l), .va (.int tick), .va (.lst (beats.map rw1)), .va (.lst (found.map ledD)), .va (rw1 look), .va (.lst ((mates beats tick look).map rw1)), .va (.lst (sm.map ledD)), .ow (.lst ((cross (found.take i) sm ++ (sm.take q).map (joinF a)).map ledD ++ [ledD (joinF a b)])), .va (ledD a), .va (ledD b), x10] = _
              have e7 : (cross (found.take i) sm ++ (sm.take (q + 1)).map (joinF a)).map ledD = (cross (found.take i) sm ++ (sm.take q).map (joinF a)).map ledD ++ [ledD (joinF a b)] := by
                rw [List.take_add_one, eb]
                simp
              rw [e7]
          · obtain ⟨rfl, hq', x9, x10, rfl⟩ := hJ
            refine ss_nil ⟨rfl, rfl, il, .va (ledD a), x9, x10, ?_⟩
            rw [List.length_map, List.take_length, cross_step ea]
        · obtain ⟨rfl, hi, x8, x9, x10, rfl⟩ := hJ
          rw [List.length_map, List.take_length]
          refine ss_freeze 7 (ss_cons (sn_set 3 nd_w_played (se_va 7 (ss_nil ⟨rfl, rfl, jl, .va (rw1 look), .va (.lst ((mates beats tick look).map rw1)), .va (.lst (sm.map ledD)), .va (.lst ((cross found sm).map ledD)), x8, x9, x10, ?_⟩))))
          rw [step]
          rfl
      · obtain ⟨rfl, hj, x4, x5, x6, x7, x8, x9, x10, rfl⟩ := hJ
        rw [List.length_map, List.take_length]
        exact ss_cons (sn_ret (se_va 3 hc))
end
end Sk
set_option maxHeartbeats 4000000
/-! S35: a dict within the frame's own dict is filled: x[i] = {}, .., x[i][k] = e. -/
namespace Sk
open PySem PySem.Spec PyProof.Rows L2
/-- o stands at p, which is nobody's -/
def Fm.hold (W : Fm) (p : Addr) (o : HO) : Fm := ⟨W.g, p :: W.O, upd W.B p o⟩
section
variable {K : PySem.W.Frag} {w : World} {W : Fm} {H : Hp} {σ : L2.St} {ρ : En}
theorem RE.toHold {p : Addr} {o : HO} (r : RE K w (W.add p) H σ ρ) (e : H p = some o) : RE K w (W.hold p o) H σ ρ := by
  refine ⟨r.len, fun a u ea na => ?_, r.src, r.tr, r.gh, fun i l el => ?_, r.apart⟩
  · by_cases z : a = p
    · subst z
      have ea' : upd W.B a o a = some u := ea
      rw [upd_same] at ea'
      rw [e, ← ea']
    · have ea' : upd W.B p o a = some u := ea
      rw [upd_ne z] at ea'
      exact r.same a u ea' na
  · have h := r.slot i l el
    cases l with
    | un => trivial
    | va d => exact h
    | br d => exact h
    | ow d =>
      obtain ⟨a, e1, n1, n2, c⟩ := h
      refine ⟨a, e1, n1, ?_, c⟩
      have ne : a ≠ p := fun z => n1 (by rw [z]; exact List.mem_cons_self)
      show upd W.B p o a = none
      rw [upd_ne ne]
      exact n2
theorem RE.held {p : Addr} {o : HO} (r : RE K w (W.hold p o) H σ ρ) (n : NotG W.g p) : H p = some o := r.same p o upd_same n
theorem RepL.setAt {g : G} {F : Addr → Prop} : ∀ {ds : List D} {vs : List V} {i : Nat} {d' : D}, RepL K w g H F ds vs → (∀ v, vs[i]? = some v → Rep K w g H F d' v) → RepL K w g H F (ds.set i d') vs
  | [], vs, i, d', h, _ => h
  | d :: ds, vs, 0, d', ⟨v, r, e, h1, h2⟩, f => ⟨v, r, e, f v (by rw [e]; rfl), h2⟩
  | d :: ds, vs, i + 1, d', ⟨v, r, e, h1, h2⟩, f => ⟨v, r, e, h1, RepL.setAt h2 fun x hx => f x (by rw [e]; exact hx)⟩
/-- what was held becomes a value within the frame's own dict -/
theorem RE.letIn {p : Addr} {x0 x1 : Obj × List (Int × V × V)} {j idx : Nat} {ks ds : List D} {d' : D} (r : RE K w (W.hold p (dO p x0)) H σ ρ) (hO : p ∉ W.O) (hB : W.B p = none) (hG : NotG W.g p) (hbr : ∀ (i : Nat) (d : D), ρ.s[i]? ≠ some (.br d)) (hj : ρ.s[j]? = some (.ow (.dct ks ds))) (hi : ds[idx]? = some (.adr p))
    (hd : ∀ F : Addr → Prop, ¬ F p → (∀ {ds : List D} {vs : List V}, RepL K w W.g H (Fb (p :: W.O) σ ρ.s) ds vs → RepL K w W.g (upd H p (dO p x1)) F ds vs) → Rep K w W.g (upd H p (dO p x1)) F d' (.ref p)) : RE K w W (upd H p (dO p x1)) σ (ρ.set j (.ow (.dct ks (ds.set idx d')))) := by
  have hp : H p = some (dO p x0) := r.held hG
  have kp : ∀ b u, b ≠ p → H b = some u → upd H p (dO p x1) b = some u := fun b u n e => by rw [upd_ne n]; exact e
  have ownNe : ∀ (i : Nat) (d : D) (a : Addr), ρ.s[i]? = some (.ow d) → σ[i]? = some (some (.ref a)) → a ≠ p ∧ a ∉ W.O := fun i d a e1 e2 => by
    obtain ⟨a', e3, n1, _⟩ := r.slot i _ e1
    rw [e2] at e3
    cases e3
    exact ⟨fun z => n1 (z ▸ List.mem_cons_self), fun z => n1 (List.mem_cons_of_mem _ z)⟩
  have old : ∀ {i : Nat} {d : D}, (ρ.s.set j (.ow (.dct ks (ds.set idx d'))))[i]? = some (.ow d) → ∃ d2, ρ.s[i]? = some (.ow d2) := fun {i d} e => by
    by_cases z : i = j
    · subst z
      exact ⟨_, hj⟩
    · rw [get_set_ne z] at e
      exact ⟨d, e⟩
  have sub : ∀ b, Fb W.O σ (ρ.s.set j (.ow (.dct ks (ds.set idx d')))) b → Fb (p :: W.O) σ ρ.s b := fun b z => by
    rcases z with z | ⟨i, d, e1, e2⟩
    · exact .inl (List.mem_cons_of_mem _ z)
    · obtain ⟨d2, e3⟩ := old e1
      exact .inr ⟨i, d2, e3, e2⟩
  have nfp : ¬ Fb W.O σ (ρ.s.set j (.ow (.dct ks (ds.set idx d')))) p := fun z => by
    rcases z with z | ⟨i, d, e1, e2⟩
    · exact hO z
    · obtain ⟨d2, e3⟩ := old e1
      exact (ownNe i d2 p e3 e2).1 rfl
  have tne : ∀ b ys, H b = some (HO.tup ys) → upd H p (dO p x1) b = some (HO.tup ys) := fun b ys e => kp b _ (fun z => by rw [z, hp] at e; unfold dO at e; cases e) e
  have fne : ∀ b ob u, H b = some (HO.frz ob u) → upd H p (dO p x1) b = some (HO.frz ob u) := fun b ob u e => kp b _ (fun z => by rw [z, hp] at e; unfold dO at e; cases e) e
  have hk : ∀ b u, ¬ Fb (p :: W.O) σ ρ.s b → H b = some u → upd H p (dO p x1) b = some u ∧ ¬ Fb W.O σ (ρ.s.set j (.ow (.dct ks (ds.set idx d')))) b := fun b u n e => ⟨kp b u (fun z => n (.inl (z ▸ List.mem_cons_self))) e, fun z => n (sub b z)⟩
  have up : ∀ {d1 : D} {v : V}, Rep K w W.g H (Fb (p :: W.O) σ ρ.s) d1 v → Rep K w W.g (upd H p (dO p x1)) (Fb W.O σ (ρ.s.set j (.ow (.dct ks (ds.set idx d'))))) d1 v := fun h => Rep.mono tne fne hk _ _ h
  have upL : ∀ {d1 : List D} {v : List V}, RepL K w W.g H (Fb (p :: W.O) σ ρ.s) d1 v → RepL K w W.g (upd H p (dO p x1)) (Fb W.O σ (ρ.s.set j (.ow (.dct ks (ds.set idx d'))))) d1 v := fun h => RepL.mono tne fne hk _ _ h
  refine ⟨by show (ρ.s.set j _).length = _; rw [List.length_set]; exact r.len, fun a u ea na => ?_, fun q eq => ?_, fun a ha => ?_, fun q hq => up (r.gh q hq), fun i l el => ?_, fun i i2 d1 d2 b e1 e2 e3 e4 => ?_⟩
  · have ne : a ≠ p := fun z => by rw [z, hB] at ea; cases ea
    refine kp a u ne (r.same a u ?_ na)
    show upd W.B p (dO p x0) a = some u
    rw [upd_ne ne]
    exact ea
  · obtain ⟨h1, h2, ⟨h3, h4⟩, ⟨L, C, rr, t, z1, z2, z3, z4⟩, tb⟩ := r.src q eq
    obtain ⟨g1, g2, g3⟩ := hG q eq
    have g4 : q.2.2.1 ≠ p := fun z => by rw [z, hp] at z3; unfold dO at z3; cases z3
    have inn : ∀ {a : Addr}, a ∈ p :: W.O → a ≠ p → a ∈ W.O := fun ha n => (List.mem_cons.mp ha).resolve_left n
    exact ⟨inn h1 g1.symm, inn h2 g2.symm, ⟨inn h3 g4, fun tt ht => inn (h4 tt ht) (g3 tt ht).symm⟩, ⟨L, C, rr, t, kp _ _ g1.symm z1, kp _ _ g2.symm z2, kp _ _ g4 z3, z4⟩, tabs_upd tb hp (fun _ z => by unfold dO at z; cases z) fun _ => dO_code⟩
  · by_cases z : a = p
    · subst z
      exact absurd ha hO
    · obtain ⟨u, e⟩ := r.tr a (List.mem_cons_of_mem _ ha)
      exact ⟨u, kp a u z e⟩
  · have el' : (ρ.s.set j (.ow (.dct ks (ds.set idx d'))))[i]? = some l := el
    by_cases z : i = j
    · subst z
      obtain ⟨e1, e2⟩ := get_set_eq el'
      subst e1
      obtain ⟨a, e3, n1, n2, kv, vs, q, rk, rv, dk, hlen⟩ := r.slot i _ hj
      obtain ⟨ne, nO⟩ := ownNe i _ a hj e3
      refine ⟨a, e3, nO, ?_, kv, vs, kp a _ ne q, upL rk, RepL.setAt (upL rv) fun v hv => ?_, dk, by rw [List.length_set]; exact hlen⟩
      · have n2' : upd W.B p (dO p x0) a = none := n2
        rw [upd_ne ne] at n2'
        exact n2'
      · obtain ⟨v', hv', rv'⟩ := rv.get hi
        rw [hv] at hv'
        cases hv'
        have e5 : v = .ref p := rv'
        subst e5
        exact hd _ nfp upL
    · rw [get_set_ne z] at el'
      have h := r.slot i l el'
      cases l with
      | un => trivial
      | va d =>
        obtain ⟨v, e1, h⟩ := h
        exact ⟨v, e1, up h⟩
      | br d => exact absurd el' (hbr i d)
      | ow d =>
        obtain ⟨a, e1, n1, n2, c⟩ := h
        obtain ⟨ne, nO⟩ := ownNe i _ a el' e1
        refine ⟨a, e1, nO, ?_, Con.mono upL (fun u e => kp a u ne e) c⟩
        have n2' : upd W.B p (dO p x0) a = none := n2
        rw [upd_ne ne] at n2'
        exact n2'
  · obtain ⟨_, z1⟩ := old e1
    obtain ⟨_, z2⟩ := old e2
    exact r.apart i i2 _ _ b z1 z2 e3 e4
end
section
variable (X : Cx) (W : Fm) (p : Addr) (o : HO)
structure HoldOk : Prop where
  O : p ∉ W.O
  B : W.B p = none
  G : NotG W.g p
/-- statements while p is held, that end with nothing held -/
def SSI (ρ : En) (sts : List Stmt) (R : RD) : Prop := ∀ (pins : List (Addr × Obj)) (s : Shared) (σ : L2.St) (H : Hp), HoldOk W p → Inv X pins σ H s → RE X.K X.w (W.hold p o) H σ ρ → wpAny (model X.prog X.w) X.A (execs sts X.env) (SPD X W pins R) X.xe s
end
section
variable {X : Cx} {W : Fm} {p : Addr} {o : HO} {ρ : En} {R : RD} {st : Stmt} {sts body : List Stmt} {e i tg iter : Expr} {pos p1 p2 p3 p4 : Pos} {jj : Nat}
theorem ssi_cons (h : SN X (W.hold p o) ρ st ⟨fun ρ' => SSI X W p o ρ' sts R, fun _ _ => False, fun _ => False, fun _ => False⟩) : SSI X W p o ρ (st :: sts) R := fun pins s σ H hh I r => by
  refine wpAny_execs_cons (thn (h pins s σ H I r) fun f s1 q => ?_)
  cases f with
  | next =>
    obtain ⟨σ', H', ρ', a, b, c⟩ := q
    exact c pins s1 σ' H' hh a b
  | ret v => obtain ⟨_, _, _, _, _, _, _, _, _, z⟩ := q; exact z.elim
  | brk => obtain ⟨_, _, _, _, _, z⟩ := q; exact z.elim
  | cont => obtain ⟨_, _, _, _, _, z⟩ := q; exact z.elim
/-- x[key] = {} -/
theorem ss_dnew (j : Nat) {x kx : Str} {ks ds : List D} (hu : X.A.units + 9 < cLine) (hk : KOk ks (.str kx)) (hz : ks.length < 1000000) (h : ∀ p ob, SSI X W p (dO p (ents X.w [] (ob, []) [])) (ρ.set j (.ow (.dct (dputK ks (.str kx)) (dputV ks ds (.str kx) (.adr p))))) sts R) (hl : ρ.s[j]? = some (.ow (.dct ks ds)) := by rfl) (hN : X.N[j]? = some x := by rfl)
    (hv : Vis X.env.scope x := by first | exact Or.inl rfl | exact Or.inr (Or.inl rfl) | exact Or.inr (Or.inr rfl)) (hdb : (x == ("__debug__" : Str)) = false := by decide) (hcd : (x == ("__classdict__" : Str)) = false := by decide)
    (ha : ∀ v, assign (.Subscript (.Name x p1) (.Constant (.str kx) jj p3) p2) X.env v = (do
      let ov ← holding [v] (eval (.Name x p1) X.env)
      let iv ← holding [v, ov] (eval (.Constant (.str kx) jj p3) X.env)
      standAt p2
      holding [v, ov, iv] (setItem ov iv v)
      release [v, ov, iv] []) := by intro _; rfl)
    (hs : swapsWithSole [.Subscript (.Name x p1) (.Constant (.str kx) jj p3) p2] (.Dict [] [] p4) pos.line X.env = pure false := by rfl) (hw : swappedStores [.Subscript (.Name x p1) (.Constant (.str kx) jj p3) p2] (.Dict [] [] p4) X.env = pure none := by rfl)
    (h1 : (assignEach [.Subscript (.Name x p1) (.Constant (.str kx) jj p3) p2] X.env).map (·.2) = [assign (.Subscript (.Name x p1) (.Constant (.str kx) jj p3) p2) X.env] := by rfl) : SS X W ρ (.Assign [.Subscript (.Name x p1) (.Constant (.str kx) jj p3) p2] (.Dict [] [] p4) pos :: sts) R := fun pins s σ H I r => by
  have ps := ps_asg (pos := pos) (pe_XF (W := W) (ρ := ρ) (e := .Dict [] [] p4)) (pg_sub (pe_var hN hv hdb hcd) (pe_str (x := kx)) (set_dO hu) ha) hs hw h1
  refine wpAny_execs_cons (thn (ps.run pins s σ H ⟨fun σ' H' => ∃ p ob, HoldOk W p ∧ RE X.K X.w (W.hold p (dO p (ents X.w [] (ob, []) []))) H' σ' (ρ.set j (.ow (.dct (dputK ks (.str kx)) (dputV ks ds (.str kx) (.adr p))))), fun _ _ => False, fun _ _ => False, fun _ _ => False⟩ I ?_) fun f s1 q => ?_)
  · refine ⟨ρ.n, r, _, sf_dict0 (K := fun n d => n = ρ.n ∧ d = .dct [] []) ⟨rfl, rfl⟩, fun p H1 n d s1 hp r1 r2 c ⟨en, ed⟩ => ?_⟩
    subst ed
    have en' : n = ρ.n := en
    subst en'
    obtain ⟨kv0, vs0, q0, rk0, rv0, _⟩ := c
    have ev0 : vs0 = [] := rv0
    subst ev0
    obtain ⟨ob0, kvl⟩ := kv0
    have ek0 : kvl = [] := rk0
    subst ek0
    have hh : HoldOk W p := ⟨(r.fresh0 hp).2, (r.fresh0 hp).1, r.notG (r.fresh0 hp).2⟩
    have r3 : RE X.K X.w (W.hold p (dO p (ents X.w [] (ob0, []) []))) H1 σ ρ := r2.toHold q0
    obtain ⟨a, e0, n1, n2, kv, vs, q, rk, rv, dk, hlen⟩ := r3.slot j _ hl
    refine ⟨.ref a, e0, W.g, Fb (p :: W.O) σ ρ.s, ks, ds, .str kx, .adr p, a, kv, vs, rfl, q, rk, rv, dk, hlen, rfl, hk, hz, fun ob => ⟨p, ob0, hh, ?_⟩⟩
    exact r3.write (d' := .dct (dputK ks (.str kx)) (dputV ks ds (.str kx) (.adr p))) hl e0 fun F up => ⟨(ob, _), _, upd_same, up (rep_putK (k := .str kx) rk rfl), up (rep_putV (d := .adr p) rv rfl), dk.put hk, dput_len hlen⟩
  · cases f with
    | next =>
      obtain ⟨σ', H', I', p, kv, hh, r'⟩ := q
      exact h p kv pins s1 σ' H' hh I' r'
    | ret v => obtain ⟨_, _, _, _, _, z⟩ := q; exact z.elim
    | brk => obtain ⟨_, _, _, z⟩ := q; exact z.elim
    | cont => obtain ⟨_, _, _, z⟩ := q; exact z.elim
/-- x[key][i] = e, the last -/
theorem ssi_dlast (j idx : Nat) {x kx : Str} {ks ds : List D} {ob0 : Obj} (hu : X.A.units + 9 < cLine) (hk : KOk ks (.str kx)) (hg : dget ks ds (.str kx) = some (.adr p)) (hi : ds[idx]? = some (.adr p)) (hbr : ∀ (i : Nat) (d : D), ρ.s[i]? ≠ some (.br d))
    (h : SE X (W.hold p (dO p (ents X.w [] (ob0, []) []))) ρ e fun n d => SE X (W.hold p (dO p (ents X.w [] (ob0, []) []))) (ρ.to n) i fun m k => KOk [] k ∧ R.nx ((ρ.to m).set j (.ow (.dct ks (ds.set idx (.dct [k] [d])))))) (hl : ρ.s[j]? = some (.ow (.dct ks ds)) := by rfl) (hN : X.N[j]? = some x := by rfl)
    (hv : Vis X.env.scope x := by first | exact Or.inl rfl | exact Or.inr (Or.inl rfl) | exact Or.inr (Or.inr rfl)) (hdb : (x == ("__debug__" : Str)) = false := by decide) (hcd : (x == ("__classdict__" : Str)) = false := by decide)
    (ha : ∀ v, assign (.Subscript (.Subscript (.Name x p1) (.Constant (.str kx) jj p3) p4) i p2) X.env v = (do
      let ov ← holding [v] (eval (.Subscript (.Name x p1) (.Constant (.str kx) jj p3) p4) X.env)
      let iv ← holding [v, ov] (eval i X.env)
      standAt p2
      holding [v, ov, iv] (setItem ov iv v)
      release [v, ov, iv] []) := by intro _; rfl)
    (hs : swapsWithSole [.Subscript (.Subscript (.Name x p1) (.Constant (.str kx) jj p3) p4) i p2] e pos.line X.env = pure false := by rfl) (hw : swappedStores [.Subscript (.Subscript (.Name x p1) (.Constant (.str kx) jj p3) p4) i p2] e X.env = pure none := by rfl)
    (h1 : (assignEach [.Subscript (.Subscript (.Name x p1) (.Constant (.str kx) jj p3) p4) i p2] X.env).map (·.2) = [assign (.Subscript (.Subscript (.Name x p1) (.Constant (.str kx) jj p3) p4) i p2) X.env] := by rfl) :
    SSI X W p (dO p (ents X.w [] (ob0, []) [])) ρ [.Assign [.Subscript (.Subscript (.Name x p1) (.Constant (.str kx) jj p3) p4) i p2] e pos] R := fun pins s σ H hh I r => by
  have ps := ps_asg (pos := pos) (pe_X (W := W.hold p (dO p (ents X.w [] (ob0, []) []))) (ρ := ρ) (e := e)) (pg_sub (pe_X (W := W.hold p (dO p (ents X.w [] (ob0, []) []))) (ρ := ρ)) (pe_X (W := W.hold p (dO p (ents X.w [] (ob0, []) []))) (ρ := ρ) (e := i)) (set_dO hu) ha) hs hw h1
  refine wpAny_execs_cons (thn (ps.run pins s σ H ⟨fun σ' H' => ∃ ρ', RE X.K X.w W H' σ' ρ' ∧ R.nx ρ', fun _ _ => False, fun _ _ => False, fun _ _ => False⟩ I ?_) fun f s1 q => ?_)
  · refine ⟨ρ.n, r, _, h, fun v H1 n d s1 r1 q1 h2 => ?_⟩
    have hcon : SE X (W.hold p (dO p (ents X.w [] (ob0, []) []))) (ρ.to n) (.Subscript (.Name x p1) (.Constant (.str kx) jj p3) p4) fun m d' => m = n ∧ d' = .adr p := se_dix hu (sb_nm j (se_str ⟨ks, ds, .adr p, rfl, hk, hg, rfl, rfl⟩) hl rfl hN hv hdb hcd)
    refine ⟨n, r1, _, hcon, fun v2 H2 m2 d2 s2 r2 q2 ⟨em, ed⟩ => ?_⟩
    subst ed
    have em' : m2 = n := em
    subst em'
    have ev2 : v2 = .ref p := q2
    subst ev2
    refine ⟨m2, r2, _, h2, fun y H3 m k s3 r3 q3 ⟨hk', kk⟩ => ?_⟩
    have hp3 : H3 p = some (dO p (ents X.w [] (ob0, []) [])) := r3.held hh.G
    have qv := r1.rep' (s2.trans s3) q1
    refine ⟨W.g, Fb (p :: W.O) σ ρ.s, [], [], k, d, p, (ob0, []), [], rfl, hp3, rfl, rfl, ⟨fun _ z => (nomatch z), List.nodup_nil, .inl fun _ z => (nomatch z)⟩, rfl, q3, hk', by decide, fun ob => ⟨_, r3.letIn (d' := .dct [k] [d]) hh.O hh.B hh.G hbr hl hi fun F nF up => ?_, kk⟩⟩
    exact ⟨p, (ob, [y]), [v], rfl, nF, upd_same, up ⟨y, [], rfl, q3, rfl⟩, up ⟨v, [], rfl, qv, rfl⟩, DKeys.put (ks := []) ⟨fun _ z => (nomatch z), List.nodup_nil, .inl fun _ z => (nomatch z)⟩ hk', rfl⟩
  · cases f with
    | next =>
      obtain ⟨σ', H', I', ρ', r', k'⟩ := q
      refine wpAny_execs_nil ⟨σ', H', ρ', I', r', k'⟩
    | ret v => obtain ⟨_, _, _, _, _, z⟩ := q; exact z.elim
    | brk => obtain ⟨_, _, _, z⟩ := q; exact z.elim
    | cont => obtain ⟨_, _, _, z⟩ := q; exact z.elim
def tXI (X : Cx) (W : Fm) (p : Addr) (o : HO) (sts : List Stmt) : TS := fun D σ H => ∃ ρ, RE X.K X.w (W.hold p o) H σ ρ ∧ HoldOk W p ∧ ∃ R, SSI X W p o ρ sts R ∧ FolS X W R D
theorem pss_I : PSs X sts (tXI X W p o sts) := by
  refine ⟨fun pins s σ H D I h => ?_⟩
  obtain ⟨ρ, r, hh, R, hS, f⟩ := h
  refine thn (hS pins s σ H hh I r) fun fl s' q => ?_
  cases fl with
  | next => obtain ⟨σ', H', ρ', a, b, c⟩ := q; exact ⟨σ', H', a, f.nx _ _ _ b c⟩
  | brk => obtain ⟨σ', H', ρ', a, b, c⟩ := q; exact ⟨σ', H', a, f.bk _ _ _ b c⟩
  | cont => obtain ⟨σ', H', ρ', a, b, c⟩ := q; exact ⟨σ', H', a, f.ct _ _ _ b c⟩
  | ret u => obtain ⟨v, σ', H', n, d, a, b, c, p, k⟩ := q; exact ⟨v, σ', H', a, b, f.rt _ _ _ _ c p k⟩
/-- for .. over one item, its turn ends with nothing held -/
theorem ssi_for1 (hp : PassesOwn (model X.prog X.w) X.A X.env X.xe) (hc : X.calm = true)
    (h : SI X (W.hold p o) ρ tg iter fun n ds => ∃ d, ds = [d] ∧ ∀ γ, SG X (W.hold p o) ⟨n, ρ.s, γ⟩ tg d fun ρ' => SSI X W p o ρ' body ⟨fun ρ2 => ρ2.h = γ ∧ SS X W ⟨ρ2.n, ρ2.s, ρ.h⟩ sts R, fun _ _ => False, fun _ => False, fun _ => False⟩)
    (hs : ∀ x, foldedSetIterable iter X.env x = pure x := by intro _; rfl) : SSI X W p o ρ (.For tg iter body [] pos :: sts) R := fun pins s σ H hh I r => by
  obtain ⟨wi, pi, h⟩ := h
  have ps := ps_for (pos := pos) hp hc pi (pg_X (W := W.hold p o)) (pss_I (W := W) (p := p) (o := o) (sts := body)) hs
  refine wpAny_execs_cons (thn (ps.run pins s σ H ⟨fun σ' H' => ∃ ρ', RE X.K X.w W H' σ' ρ' ∧ SS X W ρ' sts R, fun _ _ => False, fun _ _ => False, fun _ _ => False⟩ I ?_) fun f s1 q => ?_)
  · refine h σ H _ r fun Jt H1 n ds γ s1 r1 ok ⟨d, ed, turn⟩ => ?_
    subst ed
    have gin : ∀ q ∈ γ, q ∈ γ ++ ρ.h := fun q hq => List.mem_append_left _ hq
    refine ⟨fun k t σ' H' => (k = 0 ∧ t = 1 ∧ RE X.K X.w (W.hold p o) H' σ' ⟨n, ρ.s, γ ++ ρ.h⟩) ∨ (k = 1 ∧ t = 0 ∧ ∃ ρ2, RE X.K X.w W H' σ' ρ2 ∧ ρ2.h = γ ++ ρ.h ∧ SS X W ⟨ρ2.n, ρ2.s, ρ.h⟩ sts R), ⟨1, .inl ⟨rfl, rfl, r1⟩⟩, ?_⟩
    rintro k t σ' H' (⟨rfl, rfl, r2⟩ | ⟨rfl, rfl, ρ2, r2, eh, k2⟩)
    · refine .inr ⟨ok.go (W.hold p o) H' σ' _ 0 rfl r2 gin Nat.zero_lt_one, fun σ2 H2 => ∃ ρ2, RE X.K X.w W H2 σ2 ρ2 ∧ ρ2.h = γ ++ ρ.h ∧ SS X W ⟨ρ2.n, ρ2.s, ρ.h⟩ sts R, fun σ2 H2 h2 => ⟨0, by decide, .inr ⟨rfl, rfl, h2⟩⟩, fun x H2 hy => ?_⟩
      obtain ⟨sm, hr⟩ := ok.yld (W.hold p o) H' σ' _ 0 x H2 _ rfl r2 gin rfl hy
      refine ⟨_, _, r2.stay sm, hr, _, turn _, fun σ3 H3 ρ3 r3 h3 => ⟨ρ3, r3, hh, _, h3, ?_⟩⟩
      exact ⟨fun σ4 H4 ρ4 r4 ⟨e4, k4⟩ => ⟨ρ4, r4, e4, k4⟩, fun _ _ _ _ _ _ z => z.elim, fun _ _ _ _ z => z.elim, fun _ _ _ _ z => z.elim⟩
    · refine .inl ⟨ok.stop W H' σ' ρ2 1 rfl r2 (fun q hq => by rw [eh]; exact gin q hq) rfl, ⟨ρ2.n, ρ2.s, ρ.h⟩, r2.unhold fun q hq => ?_, k2⟩
      rw [eh]
      exact List.mem_append_right _ hq
  · cases f with
    | next =>
      obtain ⟨σ', H', I', ρ', r', k'⟩ := q
      exact k' pins s1 σ' H' I' r'
    | ret v => obtain ⟨_, _, _, _, _, z⟩ := q; exact z.elim
    | brk => obtain ⟨_, _, _, z⟩ := q; exact z.elim
    | cont => obtain ⟨_, _, _, z⟩ := q; exact z.elim
end
end Sk
set_option maxHeartbeats 4000000
/-! F21: two worlds. -/
namespace Sk
open PySem PySem.Spec PyProof.Rows L2
abbrev wKs : List D := [.str "words", .str "top", .str "waits", .str "slack"]
theorem wpK2 : dputK wKs (.str "waits") = wKs := by rfl
theorem wpK3 : dputK wKs (.str "slack") = wKs := by rfl
theorem wpV2 {a b c d v : D} : dputV wKs [a, b, c, d] (.str "waits") v = [a, b, v, d] := by rfl
theorem wpV3 {a b c d v : D} : dputV wKs [a, b, c, d] (.str "slack") v = [a, b, c, v] := by rfl
theorem wDict {a b c d : D} : dictD [(.str "words", a), (.str "top", b), (.str "waits", c), (.str "slack", d)] = (wKs, [a, b, c, d]) := by rfl
theorem wFit {a b c d : D} : FitK ([((.str "words" : D), a), (.str "top", b), (.str "waits", c), (.str "slack", d)].map Prod.fst) := by
  refine ⟨fun k hk => ?_, .inl fun k hk => ?_⟩
  · have h : k = .str "words" ∨ k = .str "top" ∨ k = .str "waits" ∨ k = .str "slack" := by simpa using hk
    rcases h with rfl | rfl | rfl | rfl <;> exact ⟨rfl, by simp [D.nk, NestedKey.depth]⟩
  · have h : k = .str "words" ∨ k = .str "top" ∨ k = .str "waits" ∨ k = .str "slack" := by simpa using hk
    rcases h with rfl | rfl | rfl | rfl <;> rfl
def wD (w : Str) (l : Int) (x y : D) : D := .dct wKs [.lst [.str w], .int l, x, y]
section
variable {P : Program} {w : World} {K : PySem.W.Frag} {mg : Str → Option Value} {base : Heap} {cP cT : Addr}
def ct_w_two_worlds : CT := c3 fun n a0 a1 a2 Kp => ∃ l : Int, a0 = .src ∧ a1 = .int 1 ∧ a2 = .int l ∧ 1 ≤ l ∧ l ≤ 8 ∧ 15 ≤ n ∧ ∀ (w : Str) (a b c d : Int) (s s' : Nat) (n' : Nat), WOk w → 0 ≤ a → a ≤ b → b ≤ l + 1 → s ≤ 2 → 0 ≤ c → c ≤ d → d ≤ l + 1 → s' ≤ 2 → n ≤ n' + 15 → Kp n' (.tup [worldD w l a b (s : Nat), worldD w l c d (s' : Nat)])
theorem sc_w_two_worlds : FnScope ["_law_state", "_law_width", "_law_top", "_law_near", "_law_far", "_law_word_here", "_law_low", "_law_high"] ["_law_state", "_law_width", "_law_top"] (defScope (topS 67)) := ⟨rfl, rfl, rfl, by decide +kernel, rfl, by decide +kernel, by decide +kernel⟩
theorem nd_w_two_worlds : List.Nodup (["_law_state", "_law_width", "_law_top", "_law_near", "_law_far", "_law_word_here", "_law_low", "_law_high"] : List Str) := by decide +kernel
theorem d_w_two_worlds (V : Ev K mg cP cT) (h1 : DefOk P w K mg base "_law_world" 10 ["_law_state", "_law_width", "_law_top", "_law_late", "_law_slack"] ct_w_world) (h2 : DefOk P w K mg base "_law_draw" 2 ["_law_state", "_law_many"] ct_w_draw) (h3 : DefOk P w K mg base "_law_pick" 4 ["_law_state", "_law_several"] ct_w_pick) : DefOk P w K mg base "_law_two_worlds" 12 ["_law_state", "_law_width", "_law_top"] ct_w_two_worlds := by
  obtain ⟨f, fd, F, hm⟩ := V.t (tn "_law_two_worlds" 67) (by decide +kernel)
  refine def_ok F hm (F.binds (ps := ["_law_state", "_law_width", "_law_top"]) fun _ _ _ _ _ _ us hl => match us, hl with | [_, _, _], _ => rfl) sc_w_two_worlds (fun n ds Kp hc => ?_) (fun cdv A outer s H E W n ds Kp hr hc => ?_)
  · obtain ⟨_, _, _, rfl, _⟩ := hc
    rfl
  · obtain ⟨a0, a1, a2, rfl, l, rfl, rfl, rfl, l1, l8, n15, hc⟩ := hc
    refine ss_cons (sn_set 3 nd_w_two_worlds (se_call h1 (hr.mono (by decide)) (sa_cons (se_va 0 (sa_cons (se_va 1 (sa_cons (se_va 2 (sa_cons (se_int (sa_cons (se_call h3 (hr.mono (by decide)) (sa_cons (se_va 0 (sa_cons (se_lst (sa_cons (se_int (sa_cons (se_int (sa_cons (se_int (sa_cons (se_int (sa_nil ?_)))))))))))))))))))))))))
    refine ⟨Nat.le_of_ble_eq_true rfl, sa_nil ⟨_, _, rfl, rfl, by show 1 ≤ n; omega, .inl ⟨_, rfl, Nat.le_of_ble_eq_true rfl, Nat.le_of_ble_eq_true rfl, fun d hd => ?_⟩⟩⟩
    have hs0 : ∃ s : Nat, d = .int (s : Nat) ∧ s ≤ 2 := by
      have z : d = .int 0 ∨ d = .int 0 ∨ d = .int 1 ∨ d = .int 2 := by simpa using hd
      rcases z with z | z | z | z
      · exact ⟨0, z, by decide⟩
      · exact ⟨0, z, by decide⟩
      · exact ⟨1, z, by decide⟩
      · exact ⟨2, z, by decide⟩
    obtain ⟨s, rfl, s2⟩ := hs0
    refine sa_nil ⟨_, _, _, _, _, rfl, l, (s : Nat), rfl, rfl, rfl, rfl, rfl, l1, l8, by show 10 ≤ n - 1; omega, fun w a b n1 wok qa0 qa2 qab qb hn1 => ?_⟩
    have hn1 : n - 1 ≤ n1 + 10 := hn1
    refine ss_cons (sn_own 4 nd_w_two_worlds (sf_dictP (V.b _ (by decide +kernel)) rfl (u12 hr) (SE.sb (se_listItems (V.b _ (by decide +kernel)) rfl (sb_nm 3 ?_)))))
    refine ⟨_, _, rfl, [(.str "words", .lst [.str w]), (.str "top", .int l), (.str "waits", .dct [.str w] [pairD a b]), (.str "slack", .int (s : Nat))], rfl, wFit, Nat.le_of_ble_eq_true rfl, ?_⟩
    rw [wDict]
    refine ss_dnew 4 (u9 hr) wko (by decide) fun p ob => ?_
    rw [wpK2, wpV2]
    have hslack : dget wKs [.lst [.str w], .int l, .dct [.str w] [pairD a b], .int (s : Nat)] (.str "slack") = some (.int (s : Nat)) := wg3
    refine ssi_cons (sn_dset 4 (u9 hr) (se_call h3 (hr.mono (by decide)) (sa_cons (se_va 0 (sa_cons (se_lst (sa_cons (se_dix (u9 hr) (sb_nm 3 (se_str ?_))))))))))
    refine ⟨_, _, _, rfl, wko, wg3, sa_cons (se_dix (u9 hr) (sb_nm 3 (se_str ?_)))⟩
    refine ⟨_, _, _, rfl, wko, wg3, sa_cons (se_min (V.b _ (by decide +kernel)) rfl (SE.sb (se_int (SE.sb (se_add (SE.sb (se_dix (u9 hr) (sb_nm 3 (se_str ?_)))))))))⟩
    refine ⟨_, _, _, rfl, wko, wg3, SE.sb (se_int ⟨_, .int, _, _, rfl, rfl, ?_⟩)⟩
    refine sa_cons (se_call h2 (hr.mono (by decide)) (sa_cons (se_va 0 (sa_cons (se_int (sa_nil ?_))))))
    refine ⟨_, _, rfl, 3, rfl, rfl, by decide, by decide, by show 1 ≤ n1; omega, fun y y0 y3 => sa_nil ⟨Nat.le_of_ble_eq_true rfl, sa_nil ?_⟩⟩
    refine ⟨_, _, rfl, rfl, by show 1 ≤ n1 - 1; omega, .inl ⟨_, rfl, Nat.le_of_ble_eq_true rfl, Nat.le_of_ble_eq_true rfl, fun d hd => ?_⟩⟩
    have hs1 : ∃ s' : Nat, d = .int (s' : Nat) ∧ s' ≤ 2 := by
      have z : d = .int (s : Nat) ∨ d = .int (s : Nat) ∨ d = .int (if (s : Int) + 1 < 2 then (s : Int) + 1 else 2) ∨ d = .int y := by simpa using hd
      rcases z with z | z | z | z
      · exact ⟨s, z, s2⟩
      · exact ⟨s, z, s2⟩
      · by_cases q : (s : Int) + 1 < 2
        · rw [if_pos q] at z
          exact ⟨s + 1, z, by omega⟩
        · rw [if_neg q] at z
          exact ⟨2, z, by omega⟩
      · exact ⟨y.toNat, by rw [z]; congr 1; omega, by omega⟩
    obtain ⟨s', rfl, s2'⟩ := hs1
    refine se_str ⟨wko, by decide, ?_⟩
    rw [wpK3, wpV3]
    refine ssi_for1 .never rfl (si_list (se_dix (u9 hr) (sb_nm 3 (se_str ?_))))
    refine ⟨_, _, _, rfl, wko, wg0, _, rfl, _, rfl, fun γ => sg_nm 5 ?_ nd_w_two_worlds⟩
    refine ssi_cons (sn_unpack (se_dix (u9 hr) (SE.sb (se_dix (u9 hr) (sb_nm 3 (se_str ?_))))))
    refine ⟨_, _, _, rfl, wko, wg2, se_va 5 ⟨_, _, pairD a b, rfl, str_kok (ks := [w]), dget_str, sg_tup2 (i := 6) (j := 7) ?_ rfl nd_w_two_worlds (by decide)⟩⟩
    refine ssi_cons (sn_set 6 nd_w_two_worlds (SE.imp (K := fun n' d => n' = n1 - 1 - 1 - 1 ∧ ∃ cc : Int, d = .int cc ∧ 0 ≤ cc ∧ cc ≤ l + 1) ?_ fun n' d hcc => ?_))
    · refine se_max (V.b _ (by decide +kernel)) rfl (SE.sb (se_int (SE.sb (se_min (V.b _ (by decide +kernel)) rfl (SE.sb (se_add (sb_nm 2 ?_)))))))
      refine SE.sb (se_int ⟨_, .int, SE.sb (se_add (sb_nm 6 ?_))⟩)
      refine SE.sb (se_call h3 (hr.mono (by decide)) (sa_cons (se_va 0 (sa_cons (se_lst (sa_cons (se_int (sa_cons (se_int (sa_cons (se_int (sa_cons (se_int (sa_cons (se_neg (SE.sb (se_int ?_)))))))))))))))))
      refine ⟨_, rfl, sa_nil ⟨Nat.le_of_ble_eq_true rfl, sa_nil ⟨_, _, rfl, rfl, by show 1 ≤ n1 - 1 - 1; omega, .inl ⟨_, rfl, Nat.le_of_ble_eq_true rfl, Nat.le_of_ble_eq_true rfl, fun d hd => ?_⟩⟩⟩⟩
      have hs2 : ∃ y : Int, d = .int y := by
        have z : d = .int 0 ∨ d = .int 0 ∨ d = .int 0 ∨ d = .int 1 ∨ d = .int (-1) := by simpa using hd
        rcases z with z | z | z | z | z <;> exact ⟨_, z⟩
      obtain ⟨y1, rfl⟩ := hs2
      refine ⟨_, .int, _, _, rfl, rfl, _, _, rfl, rfl, rfl, _, rfl, ?_, ?_⟩
      · split <;> split at * <;> omega
      · split <;> split at * <;> omega
    obtain ⟨en, cc, rfl, cc0, cc1⟩ := hcc
    subst en
    refine ssi_dlast 4 2 (u9 hr) wko wg2 rfl (fun i d => noBr_get rfl) (SE.imp (K := fun n' d => n' = n1 - 1 - 1 - 1 - 1 ∧ ∃ dd : Int, d = pairD cc dd ∧ cc ≤ dd ∧ dd ≤ l + 1) ?_ fun n' d hdd => ?_)
    · refine se_tup (sa_cons (se_va 6 (sa_cons (se_max (V.b _ (by decide +kernel)) rfl (sb_nm 6 ?_)))))
      refine SE.sb (se_min (V.b _ (by decide +kernel)) rfl (SE.sb (se_add (sb_nm 2 ?_))))
      refine SE.sb (se_int ⟨_, .int, SE.sb (se_add (sb_nm 7 ?_))⟩)
      refine SE.sb (se_call h3 (hr.mono (by decide)) (sa_cons (se_va 0 (sa_cons (se_lst (sa_cons (se_int (sa_cons (se_int (sa_cons (se_int (sa_cons (se_int (sa_cons (se_int (sa_cons (se_neg (SE.sb (se_int ?_)))))))))))))))))))
      refine ⟨_, rfl, sa_nil ⟨Nat.le_of_ble_eq_true rfl, sa_nil ⟨_, _, rfl, rfl, by show 1 ≤ n1 - 1 - 1 - 1; omega, .inl ⟨_, rfl, Nat.le_of_ble_eq_true rfl, Nat.le_of_ble_eq_true rfl, fun d hd => ?_⟩⟩⟩⟩
      have hs3 : ∃ y : Int, d = .int y := by
        have z : d = .int 0 ∨ d = .int 0 ∨ d = .int 1 ∨ d = .int 1 ∨ d = .int 2 ∨ d = .int (-1) := by simpa using hd
        rcases z with z | z | z | z | z | z <;> exact ⟨_, z⟩
      obtain ⟨y2, rfl⟩ := hs3
      refine ⟨_, .int, _, _, rfl, rfl, _, _, rfl, rfl, sa_nil ⟨two_le, rfl, _, rfl, ?_, ?_⟩⟩
      · split <;> split at * <;> omega
      · split <;> split at * <;> omega
    obtain ⟨en, dd, rfl, dd0, dd1⟩ := hdd
    subst en
    refine se_va 5 ⟨str_key w _ rfl, rfl, ?_⟩
    refine ss_freeze 4 (ss_cons (sn_ret (se_tup (sa_cons (se_va 3 (sa_cons (se_va 4 (sa_nil ⟨two_le, ?_⟩))))))))
    exact hc w a b cc dd s s' _ wok qa0 qab qb s2 cc0 dd0 dd1 s2' (by show n ≤ n1 - 1 - 1 - 1 - 1 + 15; omega)
end
end Sk
set_option maxHeartbeats 4000000
/-! S36: the script; the source of draws made. -/
namespace Sk
open PySem PySem.Spec PyProof.Rows L2
theorem SqF.sq {K : PySem.W.Frag} {H : Hp} {a : Addr} {xs : List V} (h : SqF K H a xs) : SqL K H a xs := by
  rcases h with ⟨o, h⟩ | h
  · exact .inl (.inr ⟨o, h⟩)
  · exact h H
theorem itOk_scr {K : PySem.W.Frag} {w : World} {g : G} {a : Addr} {ns : List Int} : ItOk K w g (Itl K a) [(.scr ns, .ref a)] (ns.map D.int) where
  go := fun W H σ ρ i hg r h hi => by
    obtain ⟨a', e1, q⟩ := r.gh _ (h _ List.mem_cons_self)
    cases e1
    have hi' : i < ns.length := by rw [List.length_map] at hi; exact hi
    exact ⟨_, .int ns[i], q.sq, by rw [List.getElem?_map, List.getElem?_eq_getElem hi']; rfl⟩
  yld := fun W H σ ρ i x H' d hg r h hi y => by
    obtain ⟨a', e1, q⟩ := r.gh _ (h _ List.mem_cons_self)
    cases e1
    obtain ⟨e2, y⟩ := y
    subst e2
    rw [List.getElem?_map] at hi
    cases e : ns[i]? with
    | none => rw [e] at hi; cases hi
    | some z =>
      rw [e] at hi
      have ed : D.int z = d := Option.some.inj hi
      subst ed
      have e3 := y _ q.sq
      rw [List.getElem?_map, e] at e3
      exact ⟨.refl _, (Option.some.inj e3).symm⟩
  stop := fun W H σ ρ i hg r h hi => by
    obtain ⟨a', e1, q⟩ := r.gh _ (h _ List.mem_cons_self)
    cases e1
    exact ⟨_, q.sq, by rw [List.length_map] at hi ⊢; exact Nat.le_of_eq hi⟩
section
variable {X : Cx} {W : Fm} {ρ : En} {e tg : Expr} {pos p1 : Pos}
theorem si_scr {K : Nat → List D → Prop} (h : SE X W ρ e fun n d => ∃ ns, d = .scr ns ∧ K n (ns.map D.int)) : SI X W ρ tg e K :=
  ⟨_, pi_list (pe_X (W := W) (ρ := ρ)), fun σ H R r f => ⟨ρ.n, r, _, h, fun v H1 n d s1 r1 p1 ⟨ns, e, k⟩ => by
    subst e
    obtain ⟨a, e, q⟩ := id p1
    subst e
    exact ⟨a, rfl, ⟨_, q.sq⟩, f _ H1 n _ [(.scr ns, .ref a)] s1 (r1.hold p1) itOk_scr k⟩⟩⟩
theorem se_lenScr {K : Nat → D → Prop} (hm : X.mg "len" = none) (h : SB X W ρ e fun n d => ∃ ns, d = .scr ns ∧ K n (.int (ns.length : Nat))) (hg : Gl X "len" := by rfl) (hs : starEach [e] X.env = (false, eval e X.env) :: starEach [] X.env := by rfl) : SE X W ρ (.Call (.Name "len" p1) [e] [] pos) K :=
  se_b1 call_len hm boot_len (h.imp fun n d ⟨ns, ed, kk⟩ => by
    subst ed
    intro σ H v Q r p f
    obtain ⟨a, e1, q⟩ := p
    refine ⟨v, ns.length, rfl, ?_, f.now r (d := .int _) rfl kk⟩
    rw [e1]
    exact .inl ⟨_, q.sq, by rw [List.length_map]⟩) hg (hs := hs)
end
end Sk
set_option maxHeartbeats 4000000
/-! F22: the source of draws is made. -/
namespace Sk
open PySem PySem.Spec PyProof.Rows L2
def spBegun (K : PySem.W.Frag) : Sp := fun vs H Q _ => ∃ (a : Addr) (ns : List Int), vs = [.ref a] ∧ SqF K H a (ns.map V.int) ∧ ns.length ≤ 63 ∧
  ∀ (H' : Hp) (p q c : Addr) (L C : List Int), Same H H' → H p = none → H q = none → p ≠ q → p ≠ c → q ≠ c → H' p = some (.dK [(.inr "large", .ref q), (.inr "cells", .ref c), (.inr "rest", .int 0), (.inr "turn", .int 0)]) → H' q = some (.lst (L.map V.int)) → H' c = some (.lst (C.map V.int)) →
    (∀ x ∈ L, 0 ≤ x) → (∀ x ∈ C, 0 ≤ x) → L.length ≤ 63 → C.length ≤ 63 → Q (.ref p) H'
theorem ints_toV : ∀ L : List Int, (L.map D.int).map D.toV = L.map V.int
  | [] => rfl
  | x :: L => by
    rw [List.map_cons, List.map_cons, List.map_cons, ints_toV L]
    rfl
theorem ints_lf : ∀ L : List Int, (L.map D.int).all D.lf = true
  | [] => rfl
  | x :: L => by
    rw [List.map_cons, List.all_cons, ints_lf L]
    rfl
def absI (i : Int) : Int := if i < 0 then -i else i
def E18 : Int := 10 ^ 18
section
variable {P : Program} {w : World} {K : PySem.W.Frag} {mg : Str → Option Value} {base : Heap} {cP cT : Addr}
theorem sc_w_begun : FnScope ["_law_script", "_law_cells", "_law_cell"] ["_law_script"] (defScope (topS 55)) := ⟨rfl, rfl, rfl, by decide +kernel, rfl, by decide +kernel, by decide +kernel⟩
theorem nd_w_begun : List.Nodup (["_law_script", "_law_cells", "_law_cell"] : List Str) := by decide +kernel
theorem ok_begun (V : Ev K mg cP cT) : ∃ f fd, FnOk P w K mg base CX0 2 f fd ["_law_script"] (spBegun K) ∧ mg "_law_begun" = some (.ref f) ∧ PySem.W.keepIn K (.ref f) = true ∧ Binds K fd ["_law_script"] [] := by
  obtain ⟨f, fd, F, hm⟩ := V.t (tn "_law_begun" 55) (by decide +kernel)
  refine ⟨f, fd, F.ok sc_w_begun (fun vs H Q E h => ?_) (fun cdv A outer s H vs Q E hr h => ⟨fun De σ H' => De.rt = Q ∧ σ = L2.start ["_law_script", "_law_cells", "_law_cell"] vs ∧ H' = H, ⟨fun pins s' σ H' De I hh => ?_⟩, rfl, rfl, rfl⟩), hm, F.kp, F.binds (ps := ["_law_script"]) fun _ _ _ _ _ _ us hl => match us, hl with | [_], _ => rfl⟩
  · obtain ⟨a, ns, rfl, _⟩ := h
    rfl
  obtain ⟨eD, eσ, eH⟩ := hh
  subst eσ eH
  obtain ⟨a, ns, rfl, sq, l63, q⟩ := h
  have r0 : RE K w ⟨none, [], H'⟩ H' (L2.start ["_law_script", "_law_cells", "_law_cell"] [.ref a]) ⟨0, startD ["_law_script", "_law_cells", "_law_cell"] [.scr ns], []⟩ :=
    re_start (n := 0) (ds := [.scr ns]) ⟨fun p z => (nomatch z), fun b z => (nomatch z)⟩ ⟨.ref a, [], rfl, ⟨a, rfl, sq⟩, rfl⟩
  have first : SN (cxOf CX0 P w K mg base ["_law_script", "_law_cells", "_law_cell"] "_law_begun" (defScope (topS 55)) f cdv A outer s H' E).nox ⟨none, [], H'⟩ ⟨0, startD ["_law_script", "_law_cells", "_law_cell"] [.scr ns], []⟩ ((defBody (topS 55)).getD 0 (.Pass ⟨0, 0, 0, 0⟩)) ⟨fun ρ' => ρ' = ⟨0, [.va (.scr ns), .va (.lst ((ns.map absI).map D.int)), .un], []⟩, fun _ _ => False, fun _ => False, fun _ => False⟩ := by
    refine sn_setLc 1 (sl_lcM (α := Int) 2 rfl nd_w_begun (si_scr (se_va 0 ?_)))
    refine ⟨ns, rfl, ns, D.int, fun i => .int (absI i), rfl, by omega, fun i hi γ W' hg s Hb C cl fp Kq hq => ?_, ?_⟩
    · exact se_abs (V.b _ (by decide +kernel)) (sb_nm 2 ⟨_, rfl, hq⟩)
    · show (⟨0, [.va (.scr ns), .va (.lst (ns.map fun i => .int (absI i))), .un], []⟩ : En) = _
      rw [List.map_map]
      rfl
  have pbF : ∀ e : Expr, PE (cxOf CX0 P w K mg base ["_law_script", "_law_cells", "_law_cell"] "_law_begun" (defScope (topS 55)) f cdv A outer s H' E).nox e (fun σ H Q => ∃ p n, RE K w (Fm.add ⟨none, [], H'⟩ p) H σ ⟨n, [.va (.scr ns), .va (.lst ((ns.map absI).map D.int)), .un], []⟩ ∧ ∃ Kq, SF (cxOf CX0 P w K mg base ["_law_script", "_law_cells", "_law_cell"] "_law_begun" (defScope (topS 55)) f cdv A outer s H' E).nox (Fm.add ⟨none, [], H'⟩ p) ⟨n, [.va (.scr ns), .va (.lst ((ns.map absI).map D.int)), .un], []⟩ e Kq ∧ FolF (cxOf CX0 P w K mg base ["_law_script", "_law_cells", "_law_cell"] "_law_begun" (defScope (topS 55)) f cdv A outer s H' E).nox (Fm.add ⟨none, [], H'⟩ p) ⟨n, [.va (.scr ns), .va (.lst ((ns.map absI).map D.int)), .un], []⟩ σ H Kq Q) := fun e => by
    refine ⟨fun pins s σ H Q I h => ?_⟩
    obtain ⟨p, n, r, Kq, hS, hQ⟩ := h
    exact thn (hS pins s σ H I r) fun u s' ⟨p', H', m, d, I', e, sm, hp, r', r2, c, k⟩ => ⟨.ref p', H', I', e, hQ p' H' m d sm hp r' r2 c k⟩
  refine wpAny_execs_cons (thn (first pins s' _ H' I r0) fun fl s1 z => ?_)
  cases fl with
  | ret v => obtain ⟨_, _, _, _, _, _, _, _, _, y⟩ := z; exact y.elim
  | brk => obtain ⟨_, _, _, _, _, y⟩ := z; exact y.elim
  | cont => obtain ⟨_, _, _, _, _, y⟩ := z; exact y.elim
  | next =>
    obtain ⟨σ1, H1, ρ1, I1, r1, e1⟩ := z
    subst e1
    refine wpAny_execs_cons (thn ((ps_ret (pe_disp (pps_cons pe_str (pbF _) (pps_cons pe_str (pe_var (i := 1) rfl (by first | exact Or.inl rfl | exact Or.inr (Or.inl rfl) | exact Or.inr (Or.inr rfl))) (pps_cons pe_str pe_int (pps_cons pe_str pe_int pps_nil)))) rfl rfl (by simp) (by simp))).run pins s1 σ1 H1 ⟨fun _ _ => False, De.rt, fun _ _ => False, fun _ _ => False⟩ I1 ?_) fun fl s2 z => ?_)
    · intro p hp
      refine ⟨p, 0, r1.addNew hp, _, SL.sf (sl_lcF (α := Int) 2 rfl nd_w_begun (K := fun m d => m = 0 ∧ d = .lst ((((ns.map absI).filter fun c => decide (E18 ≤ c)).map fun c => c - E18).map D.int)) (si_list (se_va 1 ?_))), fun q' H2 m d s2 hq r2 r3 c2 ⟨em, ed⟩ => ?_⟩
      · refine ⟨_, rfl, ns.map absI, D.int, fun c => .int (c - E18), fun c => decide (E18 ≤ c), rfl, by rw [List.length_map]; omega, fun i hi γ W' hg s Hb C cl fp Kq hq => ?_, fun i hi _ γ W' hg s Hb C cl fp Kq hq => ?_, rfl, ?_⟩
        · refine st_cmp (sc_ge (sb_nm 2 (SE.sb (se_pow (SE.sb (se_int (SE.sb (se_int ?_))))))))
          exact ⟨_, _, rfl, rfl, ⟨by decide, by decide, by decide⟩, _, _, rfl, rfl, hq⟩
        · refine se_sub (sb_nm 2 (SE.sb (se_pow (SE.sb (se_int (SE.sb (se_int ?_)))))))
          exact ⟨_, _, rfl, rfl, ⟨by decide, by decide, by decide⟩, _, _, rfl, rfl, hq⟩
        · rw [List.map_map]
          rfl
      · subst ed
        obtain ⟨vsL, hL, rL⟩ := c2
        have eL := RepL.toV (ints_lf _) rL
        rw [ints_toV] at eL
        subst eL
        obtain ⟨v, ev, c, vsC, ec, nc, hC, rC⟩ := r2.slot 1 _ rfl
        subst ec
        have eC := RepL.toV (ints_lf _) rC
        rw [ints_toV] at eC
        subst eC
        have same1 : Same H' H1 := fun b o e => r1.same b o e fun p z => (nomatch z)
        have same2 : Same (upd H1 p (.dK [])) H2 := fun b o e => s2 b o e fun p z => (nomatch z)
        have hp2 : H2 p = some (.dK []) := same2 p _ upd_same
        have nqp : p ≠ q' := fun z => by
          rw [← z, upd_same] at hq
          cases hq
        have ncp : p ≠ c := fun z => nc (.inl (by rw [← z]; exact List.mem_cons_self))
        have hc1 : ∃ o, (upd H1 p (.dK [])) c = some o := by
          obtain ⟨v', ev', c', vsC', ec', nc', hC', _⟩ := r1.slot 1 _ rfl
          subst ec'
          rw [ev] at ev'
          cases ev'
          exact ⟨_, by rw [upd_ne ncp.symm]; exact hC'⟩
        have nqc : q' ≠ c := fun z => by
          obtain ⟨o, ho⟩ := hc1
          rw [← z, hq] at ho
          cases ho
        have hq0 : H1 q' = none := by
          rw [upd_ne nqp.symm] at hq
          exact hq
        have back : ∀ b, H1 b = none → H' b = none := fun b hb => by
          cases e : H' b with
          | none => rfl
          | some o =>
            have := same1 b o e
            rw [hb] at this
            cases this
        refine ⟨.ref c, ev, hp2, [(.inr "large", .ref q'), (.inr "cells", .ref c), (.inr "rest", .int 0), (.inr "turn", .int 0)], rfl, Nat.le_of_ble_eq_true rfl, ?_⟩
        rw [eD]
        refine q _ p q' c (((ns.map absI).filter fun c => decide (E18 ≤ c)).map fun c => c - E18) (ns.map absI) (fun b o e => ?_) (back p hp) (back q' hq0) nqp ncp nqc upd_same ?_ ?_ ?_ ?_ ?_ ?_
        · have nb : b ≠ p := fun z => by rw [z, back p hp] at e; cases e
          rw [upd_ne nb]
          exact same2 b o (by rw [upd_ne nb]; exact same1 b o e)
        · rw [upd_ne nqp.symm]
          exact hL
        · rw [upd_ne ncp.symm]
          exact hC
        · intro x hx
          obtain ⟨y, hy, rfl⟩ := List.mem_map.mp hx
          have := of_decide_eq_true (List.mem_filter.mp hy).2
          omega
        · intro x hx
          obtain ⟨y, hy, rfl⟩ := List.mem_map.mp hx
          unfold absI
          split <;> omega
        · rw [List.length_map]
          have := List.length_filter_le (fun c => decide (E18 ≤ c)) (ns.map absI)
          rw [List.length_map] at this
          omega
        · rw [List.length_map]
          exact l63
    · cases fl with
      | ret v =>
        obtain ⟨v', σ', H2, I2, rv, hq⟩ := z
        exact ⟨v', σ', H2, I2, rv, hq⟩
      | next => obtain ⟨_, _, _, y⟩ := z; exact y.elim
      | brk => obtain ⟨_, _, _, y⟩ := z; exact y.elim
      | cont => obtain ⟨_, _, _, y⟩ := z; exact y.elim
end
end Sk
set_option maxHeartbeats 4000000
/-! S37: dicts compared. -/
namespace Sk
open PySem PySem.Spec PyProof.Rows L2
section
variable {prog : Program} {w : World} {A : Around} {E : Value → Shared → Prop} {s : Shared} {a b : Addr} {oa ob : Obj} {es es' : Array DictEntry} {ep ep' : Nat} {ks ks' : List NestedKey}
/-- whether the i-th entry is among the others -/
def hitAt (ks ks' : List NestedKey) (c : Nat → Nat → Bool) (i : Nat) : Bool := match (ks[i]?).bind (at? ks') with
  | none => false
  | some j => c i j
theorem raw_same {nm : String} (ha : (a == sysModules) = false) (hb : (b == sysModules) = false) (hoa : s.heap.get? a = some oa) (hda : oa.data = .dict es ep) (hob : s.heap.get? b = some ob) (hdb : ob.data = .dict es' ep') (hk : KeysAre w s.heap ks es) (hk' : KeysAre w s.heap ks' es')
    (hu : A.units + 8 < cLine) (kind : ∀ k ∈ ks, ks' = [] ∨ ∀ x ∈ ks', isLeafK x = isLeafK k) (c : Nat → Nat → Bool) (he : ∀ (i j : Nat) (hi : i < es.size) (hj : j < es'.size), SeqAt.EqAt A s es[i].val es'[j].val (c i j)) {Q : Bool → Shared → Prop}
    (h : Q (decide (es.size = es'.size) && (List.range es.size).all (hitAt ks ks' c)) s) : wpAny (model prog w) A (Builtin.Dict.samePairs nm a b) Q E s := by
  have lk : ks.length = es.size := by
    rw [← Array.length_toList]
    exact Paired.length hk.each
  unfold Builtin.Dict.samePairs Builtin.Dict.showsAll
  rw [ha, hb]
  refine wpAny_bind (wpAny_pure (wpAny_bind (wpAny_pure (wpAny_bind (wpAny_dictEntries hoa hda ?_)))))
  dsimp only
  refine wpAny_bind (wpAny_dictEntries hob hdb ?_)
  by_cases hsz : es.size = es'.size
  · rw [decide_eq_true hsz, Bool.true_and] at h
    rw [if_neg (by rw [hsz]; simp)]
    refine wpAny_bind (wpAny_dictEpoch hoa hda (wpAny_bind ?_))
    rw [Std.Legacy.Range.forIn_eq_forIn_range']
    simp only [Std.Legacy.Range.size, Nat.sub_zero, Nat.add_sub_cancel, Nat.div_one]
    refine wpAny_forIn_list _ (fun rest q s' => s' = s ∧ q = (none, ()) ∧ ∃ i, i ≤ es.size ∧ rest = List.range' i (es.size - i) ∧ (List.range i).all (hitAt ks ks' c) = true) _ ?_ ?_ _ _ ⟨rfl, rfl, 0, Nat.zero_le _, by simp, rfl⟩
    · rintro x rest q s' ⟨rfl, rfl, i, hi, hr, hall⟩
      have lt : i < es.size := by
        rcases Nat.lt_or_ge i es.size with z | z
        · exact z
        · rw [Nat.sub_eq_zero_of_le z] at hr
          simp at hr
      have e1 : es.size - i = (es.size - (i + 1)) + 1 := by omega
      rw [e1, List.range'_succ] at hr
      injection hr with hx hrest
      subst hx
      have fail : hitAt ks ks' c x = false → Q false s' := fun z => by
        have : (List.range es.size).all (hitAt ks ks' c) = false := by
          rw [List.all_eq_false]
          exact ⟨x, List.mem_range.mpr lt, by rw [z]; exact Bool.false_ne_true⟩
        rw [this] at h
        exact h
      have step : hitAt ks ks' c x = true → (List.range (x + 1)).all (hitAt ks ks' c) = true := fun z => by
        rw [List.range_succ, List.all_append, hall, List.all_cons, z]
        rfl
      have kx : ks[x]? = some (ks[x]'(by omega)) := List.getElem?_eq_getElem (by omega)
      have kin : ks[x]'(by omega) ∈ ks := List.getElem_mem _
      obtain ⟨e, hee, hh, hn⟩ : ∃ e, es.toList[x]? = some e ∧ e.hash = (ks[x]'(by omega)).hash w ∧ NestedIs s'.heap (ks[x]'(by omega)) e.key := by
        obtain ⟨e, h1, h2⟩ := Sk.paired_get hk.each kx
        exact ⟨e, h1, h2.1, h2.2⟩
      rw [Array.getElem?_toList, Array.getElem?_eq_getElem lt] at hee
      have hee' := Option.some.inj hee
      subst hee'
      refine wpAny_bind (wpAny_dictEntries hoa hda ?_)
      rw [Array.getElem?_eq_getElem lt]
      show wpAny _ _ (holding [es[x].key, es[x].val] _ >>= _) _ _ _
      rw [hh]
      refine wpAny_bind (wpAny_holding (wpAny_bind (raw_find hob hdb hk' hn (hk.dp _ kin) (kind _ kin) hu ?_)))
      have hit : hitAt ks ks' c x = match at? ks' (ks[x]'(by omega)) with | none => false | some j => c x j := by
        unfold hitAt
        rw [kx]
        rfl
      cases ej : at? ks' (ks[x]'(by omega)) with
      | none =>
        rw [ej] at hit
        refine wpAny_pure ?_
        show wpAny _ _ (if (!false) = true then _ else _) _ _ _
        rw [if_pos (by decide)]
        exact wpAny_pure (wpAny_pure (fail hit))
      | some j =>
        rw [ej] at hit
        have hit : hitAt ks ks' c x = c x j := hit
        have jl : j < es'.size := by
          have h1 : j < ks'.length := by
            unfold at? at ej
            obtain ⟨h1, _⟩ := List.findIdx?_eq_some_iff_getElem.mp ej
            exact h1
          have h2 : ks'.length = es'.size := by
            rw [← Array.length_toList]
            exact Paired.length hk'.each
          omega
        refine wpAny_bind (wpAny_dictEntries hob hdb ?_)
        rw [Array.getElem?_eq_getElem jl]
        refine wpAny_holding (he x j lt jl _ _ _ _ ?_)
        cases ec : c x j with
        | false =>
          rw [ec] at hit
          show wpAny _ _ (if (!false) = true then _ else _) _ _ _
          rw [if_pos (by decide)]
          exact wpAny_pure (wpAny_pure (fail hit))
        | true =>
          rw [ec] at hit
          show wpAny _ _ (if (!true) = true then _ else _) _ _ _
          rw [if_neg (by decide)]
          refine wpAny_bind (wpAny_dictEpoch hoa hda ?_)
          rw [if_neg (by simp)]
          exact wpAny_pure ⟨rfl, rfl, x + 1, lt, hrest, step hit⟩
    · rintro q s' ⟨rfl, rfl, i, hi, hr, hall⟩
      have hin : i = es.size := by
        rcases Nat.lt_or_ge i es.size with z | z
        · have e : es.size - i = (es.size - (i + 1)) + 1 := by omega
          rw [e, List.range'_succ] at hr
          cases hr
        · exact Nat.le_antisymm hi z
      rw [hin] at hall
      rw [hall] at h
      exact wpAny_pure h
  · rw [decide_eq_false hsz, Bool.false_and] at h
    rw [if_pos (by simpa using hsz)]
    exact wpAny_bind (wpAny_rule (wpAny_pure h))
theorem raw_eqAt (hne : a ≠ b) (ha : (a == sysModules) = false) (hb : (b == sysModules) = false) (hoa : s.heap.get? a = some oa) (xa : oa.ExactDict) (hda : oa.data = .dict es ep) (hob : s.heap.get? b = some ob) (xb : ob.ExactDict) (hdb : ob.data = .dict es' ep') (hk : ∀ w, KeysAre w s.heap ks es) (hk' : ∀ w, KeysAre w s.heap ks' es')
    (hu : A.units + 10 < cLine) (kind : ∀ k ∈ ks, ks' = [] ∨ ∀ x ∈ ks', isLeafK x = isLeafK k) (c : Nat → Nat → Bool) (he : ∀ (i j : Nat) (hi : i < es.size) (hj : j < es'.size), SeqAt.EqAt A.in1 s es[i].val es'[j].val (c i j)) :
    SeqAt.EqAt A s (.ref a) (.ref b) (decide (es.size = es'.size) && (List.range es.size).all (hitAt ks ks' c)) := by
  have ta : s.TypeIs (.ref a) "dict" := ⟨oa, hoa, xa.1⟩
  have tb : s.TypeIs (.ref b) "dict" := ⟨ob, hob, xb.1⟩
  refine SeqAt.EqAt.of_refs hne fun prog w E Q h => ?_
  refine wpAny_richCompare_same_room (op := .Eq) ta tb PySem.F.slot_dict_eq (wpAny_call_entry PySem.F.slot_dict_eq ta PySem.F.entry_dict_eq ?_ (PySem.F.args_dict_eq_2 _ _)) (by omega)
  show wpAny _ _ (Builtin.Dict.dictSlotArgs "__eq__" ⟨[.ref a, .ref b], []⟩ >>= _) _ _ s
  unfold Builtin.Dict.dictSlotArgs
  refine wpAny_bind (wpAny_bind (wpAny_notOrdered_dict ta (wpAny_pure (wpAny_bind (wpAny_isInstance (T := "dict") tb PySem.F.sub_dict_dict ?_)))))
  simp only [Bool.not_true, Bool.false_eq_true, if_false]
  refine wpAny_bind (wpAny_pure (wpAny_bind (wpAny_pure (wpAny_bind (raw_same ha hb hoa hda hob hdb (hk w) (hk' w) (by show A.units + 1 + 8 < cLine; omega) kind c he (wpAny_pure ⟨_, rfl, (fun x => nomatch x), ?_⟩))))))
  simpa using h
end
end Sk
set_option maxHeartbeats 4000000
/-! S38: a dict among dicts, told of data. -/
namespace Sk
open PySem PySem.Spec PyProof.Rows L2
/-- keys that are tuples without texts -/
structure RowKeys (ks : List D) : Prop where
  leaf : ∀ k ∈ ks, k.leaf = false
  hash : ∀ k ∈ ks, ∀ w w' : World, k.nk.hash w = k.nk.hash w'
def eqDct (p q : List D × List D) : Bool := decide (p.1.length = q.1.length) && (List.range p.1.length).all (hitAt (p.1.map D.nk) (q.1.map D.nk) fun i j => eqD (p.2.getD i .non) (q.2.getD j .non))
section
variable {X : Cx} {pins : List (Addr × Obj)} {σ : L2.St} {H : Hp} {s : Shared} {g : G} {F : Addr → Prop}
theorem flat_of {d : D} {v : V} {u : Value} (h : d.lf = true) (e : v = d.toV) (r : RelV v u) : PyProof.V.Flat u d.py := fun hp => by
  subst e
  cases d with
  | non => cases (show u = .none from r); exact .none
  | bl b => cases (show u = .bool b from r); exact .bool b
  | int i => obtain ⟨t, rfl⟩ := (show ∃ t, u = .int i t from r); exact .int i t
  | str x => obtain ⟨t, rfl⟩ := (show ∃ t, u = .str x t from r); exact .str x t
  | tup _ => cases h
  | lst _ => cases h
  | dct _ _ => cases h
  | obj _ _ _ => cases h
  | src => cases h
  | scr _ => cases h
  | pin _ _ => cases h
  | adr _ => cases h
theorem keys_any {w : World} {h : Heap} {ks : List D} {es : Array DictEntry} (K : KeysAre w h (ks.map D.nk) es) (r : RowKeys ks) (w' : World) : KeysAre w' h (ks.map D.nk) es := by
  refine ⟨paired_of (Paired.length K.each) fun i k e hk he => ?_, K.nd, K.dp, K.kind⟩
  obtain ⟨e', he', h1, h2⟩ := Sk.paired_get K.each hk
  rw [he] at he'
  cases he'
  refine ⟨?_, h2⟩
  obtain ⟨d, hd, rfl⟩ := List.mem_map.mp (List.mem_of_getElem? hk)
  rw [h1]
  exact r.hash d hd w w'
theorem dct_eqAt (I : Inv X pins σ H s) {a b : Addr} {kp vp kq vq : List D} {kv kv' : Obj × List V} {vs vs' : List V} {A : Around} (hne : a ≠ b) (ha : H a = some (dO a (ents X.w kp kv vs))) (r1 : RepL X.K X.w g H F kp kv.2) (r2 : RepL X.K X.w g H F vp vs) (dk : DKeys kp) (hl : kp.length = vp.length)
    (hb : H b = some (dO b (ents X.w kq kv' vs'))) (r3 : RepL X.K X.w g H F kq kv'.2) (r4 : RepL X.K X.w g H F vq vs') (dk' : DKeys kq) (hl' : kq.length = vq.length) (rp : RowKeys kp) (rq : RowKeys kq) (lp : vp.all D.lf = true) (lq : vq.all D.lf = true) (hu : A.units + 10 < cLine) :
    SeqAt.EqAt A s (.ref a) (.ref b) (eqDct (kp, vp) (kq, vq)) := by
  obtain ⟨oa, es, ep, O⟩ := dopen I ha r1 r2 dk hl
  obtain ⟨ob, es', ep', O'⟩ := dopen I hb r3 r4 dk' hl'
  have leafN : ∀ {ks : List D}, DKeys ks → RowKeys ks → ∀ k ∈ ks.map D.nk, isLeafK k = false := fun {ks} dk r k hk => by
    obtain ⟨d, hd, rfl⟩ := List.mem_map.mp hk
    rw [leafK_nk (dk.key d hd).1]
    exact r.leaf d hd
  have vals : ∀ {ks ds : List D} {a : Addr} {kv : Obj × List V} {vs : List V} {o : Obj} {es : Array DictEntry} {ep : Nat}, DOpen X H s g F ks ds a kv vs o es ep → ds.all D.lf = true → ∀ i (hi : i < es.size), PyProof.V.Flat es[i].val (ds.getD i .non).py := fun {ks ds a kv vs o es ep} O l i hi => by
    obtain ⟨x, y, _, hy, _, ry⟩ := O.val i es[i] (Array.getElem?_eq_getElem hi)
    obtain ⟨d, hd, rd⟩ := O.rv.get' hy
    have e1 : ds.getD i .non = d := by rw [List.getD_eq_getElem?_getD, hd]; rfl
    rw [e1]
    have lf := List.all_eq_true.mp l d (List.mem_of_getElem? hd)
    exact flat_of lf (Rep.toV lf rd) ry
  have q := raw_eqAt (A := A) hne O.sys O'.sys O.get O.ex O.dat O'.get O'.ex O'.dat (keys_any O.keys rp) (keys_any O'.keys rq) hu (fun k hk => .inr fun x hx => by rw [leafN dk rp k hk, leafN dk' rq x hx]) (fun i j => eqD (vp.getD i .non) (vq.getD j .non)) fun i j hi hj => PySem.W.keq_flat (vals O lp i hi) (vals O' lq j hj)
  have e1 := O.size
  have e2 := O'.size
  unfold eqDct
  rw [e1, e2] at q
  exact q
/-- x is among the dicts of y -/
def rHas (X : Cx) : R2 := fun x y H Q => ∃ (g : G) (F : Addr → Prop) (kx vx : List D) (items : List (List D × List D)), Rdv X.K X.w g H F (.dct kx vx) x ∧ Rdv X.K X.w g H F (.lst (items.map fun p => .dct p.1 p.2)) y ∧ RowKeys kx ∧ vx.all D.lf = true ∧ (∀ p ∈ items, RowKeys p.1 ∧ p.2.all D.lf = true) ∧ (∃ p ∈ items, eqDct p (kx, vx) = true) ∧ Q (.bl false) H
theorem op_has (hu : X.A.units + 12 < cLine) : OpR X (compareOp .NotIn) (rHas X) := by
  intro pins s σ H x y v u Q I rx ry h
  obtain ⟨g, F, kx, vx, items, hx, hy, rk, lv, all, ⟨p0, hp0, heq⟩, q⟩ := h
  obtain ⟨b, kv', vs', eb, _, hb, r3, r4, dk', hl'⟩ := hx
  obtain ⟨l, vl, el, _, hl, rl⟩ := hy
  subst eb el
  obtain rfl : v = .ref b := rx
  obtain rfl : u = .ref l := ry
  obtain ⟨its, rv, ⟨o, n0, ho, hcl, hdd, hdat⟩, hz⟩ := I.list (SqL.of (K := X.K) hl)
  have lz := rv.length
  have each : ∀ (i : Nat) (z : Value), its[i]? = some z → ∃ p, items[i]? = some p ∧ ((∃ c, SeqAt.EqAt X.A.in1 s z (.ref b) c) ∧ (eqDct p (kx, vx) = true → SeqAt.EqAt X.A.in1 s z (.ref b) true)) := fun i z hz => by
    have il : i < vl.length := by rw [lz]; exact (List.getElem?_eq_some_iff.mp hz).1
    have hv : vl[i]? = some vl[i] := List.getElem?_eq_getElem il
    have rz : RelV vl[i] z := by
      obtain ⟨z', hz', r⟩ := Sk.paired_get rv hv
      rw [hz] at hz'
      cases hz'
      exact r
    obtain ⟨d, hd, rd⟩ := rl.get' hv
    rw [List.getElem?_map] at hd
    cases ep : items[i]? with
    | none => rw [ep] at hd; cases hd
    | some p =>
      rw [ep] at hd
      have ed : D.dct p.1 p.2 = d := Option.some.inj hd
      subst ed
      obtain ⟨a, kv, vs, ea, _, ha, r1, r2, dk, hlen⟩ := rd
      rw [ea] at rz
      obtain rfl : z = .ref a := rz
      refine ⟨p, rfl, ?_⟩
      by_cases hab : a = b
      · subst hab
        exact ⟨⟨true, SeqAt.EqAt.same _⟩, fun _ => SeqAt.EqAt.same _⟩
      · obtain ⟨rp, lp⟩ := all p (List.mem_of_getElem? ep)
        have t := dct_eqAt (A := X.A.in1) I hab ha r1 r2 dk hlen hb r3 r4 dk' hl' rp rk lp lv (by show X.A.units + 1 + 10 < cLine; omega)
        exact ⟨⟨_, t⟩, fun e => by rw [e] at t; exact t⟩
  have dec : ∀ z : Value, Decidable (SeqAt.EqAt X.A.in1 s z (.ref b) true) := fun z => Classical.propDecidable _
  refine SeqAt.notIn_listAt (fun z => @decide _ (dec z)) ⟨o, ho, hcl, n0, hdat⟩ (fun z hz => ?_) ?_
  · obtain ⟨i, hi⟩ := List.mem_iff_getElem?.mp (show z ∈ its by simpa using hz)
    obtain ⟨p, _, ⟨c, hc⟩, _⟩ := each i z hi
    by_cases t : SeqAt.EqAt X.A.in1 s z (.ref b) true
    · have e : @decide _ (dec z) = true := @decide_eq_true _ (dec z) t
      rw [e]
      exact t
    · have e : @decide _ (dec z) = false := @decide_eq_false _ (dec z) t
      rw [e]
      cases c with
      | true => exact absurd hc t
      | false => exact hc
  · obtain ⟨i, hi⟩ := List.mem_iff_getElem?.mp hp0
    have il : i < its.length := by
      have h1 : i < items.length := (List.getElem?_eq_some_iff.mp hi).1
      have h2 := rl.length
      rw [List.length_map] at h2
      omega
    obtain ⟨p, hp, _, ht⟩ := each i its[i] (List.getElem?_eq_getElem il)
    rw [hi] at hp
    cases hp
    have e : (its.toArray.any fun z => @decide _ (dec z)) = true := by
      rw [Array.any_eq_true]
      exact ⟨i, by simpa using il, by simpa using @decide_eq_true _ (dec its[i]) (ht heq)⟩
    rw [e]
    exact ⟨.bl false, H, I, rfl, q⟩
end
section
variable {X : Cx} {W : Fm} {ρ : En} {K : Nat → Bool → Prop} {e e2 : Expr}
/-- x not in l, x one of the dicts of l -/
theorem sc_notinHas (hu : X.A.units + 12 < cLine) (h : SB X W ρ e fun n x => SB X W (ρ.to n) e2 fun m y => ∃ (kx vx : List D) (items : List (List D × List D)), x = .dct kx vx ∧ y = .lst (items.map fun p => .dct p.1 p.2) ∧ RowKeys kx ∧ vx.all D.lf = true ∧ (∀ p ∈ items, RowKeys p.1 ∧ p.2.all D.lf = true) ∧ (∃ p ∈ items, eqDct p (kx, vx) = true) ∧ K m false) : SC X W ρ .NotIn e e2 K :=
  ⟨_, op_has hu, h.imp fun n x h => h.imp fun m y ⟨kx, vx, items, ex, ey, h1, h2, h3, h4, k⟩ => by
    subst ex ey
    exact fun σ H vx' vy Q r px py f => ⟨W.g, Fb W.O σ ρ.s, kx, vx, items, px, py, h1, h2, h3, h4, f.now r (d := .bl false) rfl ⟨false, rfl, k⟩⟩⟩
end
end Sk
set_option maxHeartbeats 4000000
/-! S39: x[a], x[b] = e. -/
namespace Sk
open PySem PySem.Spec PyProof.Rows L2
section
variable {X : Cx} {W : Fm} {ρ : En} {K : En → Prop} {pos p1 p2 p3 p4 p5 p6 : Pos} {j1 j2 kk : Nat}
theorem sg_dset2 (j : Nat) {x kx ky : Str} {ks ds : List D} {d1 d2 : D} (hc : X.calm = true) (hu : X.A.units + 9 < cLine) (hk1 : KOk ks (.str kx)) (hk2 : KOk (dputK ks (.str kx)) (.str ky)) (hz1 : ks.length < 1000000) (hz2 : (dputK ks (.str kx)).length < 1000000)
    (h : K (ρ.set j (.ow (.dct (dputK (dputK ks (.str kx)) (.str ky)) (dputV (dputK ks (.str kx)) (dputV ks ds (.str kx) d1) (.str ky) d2))))) (hl : ρ.s[j]? = some (.ow (.dct ks ds)) := by rfl) (hN : X.N[j]? = some x := by rfl)
    (hv : Vis X.env.scope x := by first | exact Or.inl rfl | exact Or.inr (Or.inl rfl) | exact Or.inr (Or.inr rfl)) (hdb : (x == ("__debug__" : Str)) = false := by decide) (hcd : (x == ("__classdict__" : Str)) = false := by decide)
    (ha : ∀ v, assign (.Subscript (.Name x p1) (.Constant (.str kx) j1 p2) p3) X.env v = (do
      let ov ← holding [v] (eval (.Name x p1) X.env)
      let iv ← holding [v, ov] (eval (.Constant (.str kx) j1 p2) X.env)
      standAt p3
      holding [v, ov, iv] (setItem ov iv v)
      release [v, ov, iv] []) := by intro _; rfl)
    (hb : ∀ v, assign (.Subscript (.Name x p4) (.Constant (.str ky) j2 p5) p6) X.env v = (do
      let ov ← holding [v] (eval (.Name x p4) X.env)
      let iv ← holding [v, ov] (eval (.Constant (.str ky) j2 p5) X.env)
      standAt p6
      holding [v, ov, iv] (setItem ov iv v)
      release [v, ov, iv] []) := by intro _; rfl) :
    SG X W ρ (.Tuple [.Subscript (.Name x p1) (.Constant (.str kx) j1 p2) p3, .Subscript (.Name x p4) (.Constant (.str ky) j2 p5) p6] kk pos) (.tup [d1, d2]) K := fun pins s σ H v u I r rv p => by
  obtain ⟨a, vs, e, q, v1, t1, e1, h1, v2, t2, e2, h2, e3⟩ := p
  have e3' : t2 = [] := e3
  subst e e1 e2 e3'
  have pg := pg_tup (pos := pos) (k := kk) hc (pgs_cons (pg_sub (pe_var hN hv hdb hcd) (pe_str (x := kx)) (set_dO hu) ha) (pgs_cons (pg_sub (pe_var hN hv hdb hcd) (pe_str (x := ky)) (set_dO hu) hb) pgs_nil))
  refine thn (pg.run pins s σ H (.ref a) u (fun σ' H' => ∃ ρ', RE X.K X.w W H' σ' ρ' ∧ K ρ') I rv ?_) fun _ s' ⟨σ', H', z1, ρ', z2, z3⟩ => ⟨σ', H', ρ', z1, z2, z3⟩
  refine ⟨a, [v1, v2], rfl, q, rfl, v1, [v2], rfl, ?_⟩
  obtain ⟨b, e0, n1, n2, kv, ws, qb, rk, rw', dk, hlen⟩ := r.slot j _ hl
  refine ⟨.ref b, e0, W.g, Fb W.O σ ρ.s, ks, ds, .str kx, d1, b, kv, ws, rfl, qb, rk, rw', dk, hlen, rfl, hk1, hz1, fun ob => ?_⟩
  have r0 := r.hold h2
  have r1 := r0.write (i := j) (d' := .dct (dputK ks (.str kx)) (dputV ks ds (.str kx) d1)) hl e0 (o := dO b (ents X.w (dputK ks (.str kx)) (ob, kvP ks (.str kx) kv.2 (.str kx)) (vsP ks (.str kx) ws v1))) fun F up => ⟨(ob, _), _, upd_same, up (rep_putK (k := .str kx) rk rfl), up (rep_putV (d := d1) rw' h1), dk.put hk1, dput_len hlen⟩
  have rep2 := r1.gh _ List.mem_cons_self
  have r2 := r1.unhold (γ := ρ.h) fun z hz => List.mem_cons_of_mem _ hz
  have hl2 : (ρ.set j (.ow (.dct (dputK ks (.str kx)) (dputV ks ds (.str kx) d1)))).s[j]? = some (.ow (.dct (dputK ks (.str kx)) (dputV ks ds (.str kx) d1))) := by
    show (ρ.s.set j _)[j]? = _
    rw [List.getElem?_set, if_pos rfl, if_pos (List.getElem?_eq_some_iff.mp hl).1]
  obtain ⟨b2, e4, n3, n4, kv2, ws2, qb2, rk2, rw2, dk2, hlen2⟩ := r2.slot j _ hl2
  refine ⟨v2, [], rfl, ?_⟩
  refine ⟨.ref b2, e4, W.g, _, dputK ks (.str kx), dputV ks ds (.str kx) d1, .str ky, d2, b2, kv2, ws2, rfl, qb2, rk2, rw2, dk2, hlen2, rfl, hk2, hz2, fun ob2 => ?_⟩
  refine ⟨rfl, _, r2.write (i := j) (d' := .dct (dputK (dputK ks (.str kx)) (.str ky)) (dputV (dputK ks (.str kx)) (dputV ks ds (.str kx) d1) (.str ky) d2)) hl2 e4 fun F up => ⟨(ob2, _), _, upd_same, up (rep_putK (k := .str ky) rk2 rfl), up (rep_putV (d := d2) rw2 rep2), dk2.put hk2, dput_len hlen2⟩, ?_⟩
  have e9 : (⟨ρ.n, (ρ.s.set j (.ow (.dct (dputK ks (.str kx)) (dputV ks ds (.str kx) d1)))).set j (.ow (.dct (dputK (dputK ks (.str kx)) (.str ky)) (dputV (dputK ks (.str kx)) (dputV ks ds (.str kx) d1) (.str ky) d2))), ρ.h⟩ : En) = ρ.set j (.ow (.dct (dputK (dputK ks (.str kx)) (.str ky)) (dputV (dputK ks (.str kx)) (dputV ks ds (.str kx) d1) (.str ky) d2))) := by
    rw [List.set_set]
    rfl
  show K ⟨ρ.n, (ρ.s.set j (.ow (.dct (dputK ks (.str kx)) (dputV ks ds (.str kx) d1)))).set j (.ow (.dct (dputK (dputK ks (.str kx)) (.str ky)) (dputV (dputK ks (.str kx)) (dputV ks ds (.str kx) d1) (.str ky) d2))), ρ.h⟩
  rw [e9]
  exact h
end
end Sk
set_option maxHeartbeats 8000000
/-! F23: the law. -/
namespace Sk
open PySem PySem.Spec PyProof.Rows L2
def ledsOf (l : Int) : List (TD T) := played (l + 1).toNat 0 (tms l)
def ledEq (f g : TD T) : Bool := eqDct (f.1.map rw1, f.2.map tD) (g.1.map rw1, g.2.map tD)
/-- a pair of delays -/
def Pr (l a b : Int) : Prop := 0 ≤ a ∧ a ≤ b ∧ b ≤ l + 1
structure Facts (l : Int) : Prop where
  good : goodP (l + 1).toNat 0 (tms l) = true
  few : (ledsOf l).length ≤ 1000
  one : 0 < (ledsOf l).length
  led : ∀ f ∈ ledsOf l, LedOk l f ∧ AnsOk l f ∧ steady l f = true
  serve : ∀ (a b c d : Int) (s s' : Nat), Pr l a b → Pr l c d → s ≤ 2 → s' ≤ 2 → allServed (rings a b l s) (rings c d l s') (ledsOf l) = (trans l a b (s : Nat) c d (s' : Nat)).isSome
  chain : ∀ (a b c d e f : Int) (s s' s'' : Nat), Pr l a b → Pr l c d → Pr l e f → s ≤ 2 → s' ≤ 2 → s'' ≤ 2 → (trans l a b (s : Nat) c d (s' : Nat)).isSome = true → (trans l c d (s' : Nat) e f (s'' : Nat)).isSome = true → (trans l a b (s : Nat) e f (s'' : Nat)).isSome = true
  self : ∀ (a b : Int) (s : Nat), Pr l a b → s ≤ 2 → (trans l a b (s : Nat) a b (s : Nat)).isSome = true
  tr : ∀ (a b c d : Int) (s s' : Nat) (f : TD T), Pr l a b → Pr l c d → s ≤ 2 → s' ≤ 2 → trans l a b (s : Nat) c d (s' : Nat) = some f → f.1.length = f.2.length ∧ isReader a b l c d f = true ∧ ∀ g ∈ ledsOf l, (∀ t ∈ (norm l g).1, vAt f t ∈ (norm l g).1) ∧ AnsOk l (transl f (norm l g)) ∧ steady l (transl f (norm l g)) = true ∧
    LedOk l (norm l (transl f (norm l g))) ∧ (∃ p ∈ ledsOf l, ledEq p (norm l (transl f (norm l g))) = true) ∧ within (rings a b l s (norm l (transl f (norm l g)))) (rings c d l s' g) = true
theorem Pr.sm {l a b : Int} (h : Pr l a b) (l1 : 1 ≤ l) (l8 : l ≤ 8) : Sm a b l := ⟨h.1, h.2.1, by have := h.2.2; omega, by omega, by omega⟩
theorem rowKeys (ts : List T) : RowKeys (ts.map rw1) := by
  refine ⟨fun k hk => ?_, fun k hk w w' => ?_⟩
  · obtain ⟨t, _, rfl⟩ := List.mem_map.mp hk
    exact (rw1_key t).2.2
  · obtain ⟨t, _, rfl⟩ := List.mem_map.mp hk
    rw [hT_eq, hT_eq]
theorem eqD_bl (a b : Bool) : eqD (.bl a) (.bl b) = decide (a = b) := by cases a <;> cases b <;> rfl
section
variable {P : Program} {w : World} {K : PySem.W.Frag} {mg : Str → Option Value} {base : Heap} {cP cT : Addr}
abbrev lawN : List Str := ["_law_script", "_law_state", "_law_top", "_law_leds", "_law_turn", "_law_near", "_law_far", "_law_third", "_law_boards", "_law_told", "_law_led", "_law_read", "_law_pair", "_law_world_here", "_law_board_here"]
theorem sc_law : FnScope lawN ["_law_script"] (defScope (topS 74)) := ⟨rfl, rfl, rfl, by decide +kernel, rfl, by decide +kernel, by decide +kernel⟩
theorem nd_law : List.Nodup lawN := by decide +kernel
/-- all defs that the law calls -/
structure Defs (P : Program) (w : World) (K : PySem.W.Frag) (mg : Str → Option Value) (base : Heap) (cP cT pT : Addr) : Prop where
  draw : DefOk P w K mg base "_law_draw" 2 ["_law_state", "_law_many"] ct_w_draw
  pick : DefOk P w K mg base "_law_pick" 4 ["_law_state", "_law_several"] ct_w_pick
  spots : DefOk P w K mg base "_law_spots" 4 ["_law_width", "_law_top"] ct_w_spots
  played : ∀ k : Nat, DefG P w K mg base [(pT, lamQ)] "_law_played" (8 + k) ["_law_top", "_law_tick", "_law_beats"] (ct_w_played k)
  two : DefOk P w K mg base "_law_two_worlds" 12 ["_law_state", "_law_width", "_law_top"] ct_w_two_worlds
  board : DefOk P w K mg base "_law_board" 13 ["_law_world_here"] (ct_w_board cP cT)
  serves : DefOk P w K mg base "serves" 10 ["one", "other"] (ct_serves cP cT)
  translator : DefOk P w K mg base "translator" 10 ["one", "other"] (ct_translator cP cT)
  translated : DefOk P w K mg base "translated" 15 ["one", "other", "translator", "table"] (ct_translated cP cT)
  table : MakeOk P w K mg base "Table" cT 10 ["self", "size", "length", "answers"] (ct_Table cP cT)
  answers : MethOk P w K mg base cT "answers" 2 ["self"] (ct_answers cP cT)
  served : DefOk P w K mg base "_law_all_served" 6 ["_law_near", "_law_far", "_law_leds"] ct_w_all_served
  rings : DefOk P w K mg base "_law_rings" 4 ["_law_world_here", "_law_led"] ct_w_rings
  within : DefOk P w K mg base "_law_is_within" 2 ["_law_rings_here", "_law_more"] ct_w_is_within
def lawFor : List Stmt := match (defBody (topS 74)).getD 3 (.Pass ⟨0, 0, 0, 0⟩) with
  | .For _ _ b _ _ => b
  | _ => []
/-- the names of the law while a turn goes on -/
def lawS (ns : List Int) (l : Int) (leds : D) (x4 near far third boards told x10 x11 x12 x13 x14 : Sl) : List Sl := [.va (.scr ns), .va .src, .va (.int l), .va leds, x4, near, far, third, boards, told, x10, x11, x12, x13, x14]
/-- what the end of a turn is asked -/
structure TurnR (ns : List Int) (l : Int) (leds : D) (n : Nat) (γ : List (D × V)) (R : RD) : Prop where
  rt : ∀ n d, d = .bl true → R.rt n d
  nx : ∀ n' x4 x5 x6 x7 x8 x9 x10 x11 x12 x13 x14, n ≤ n' + 1 → R.nx ⟨n', lawS ns l leds x4 x5 x6 x7 x8 x9 x10 x11 x12 x13 x14, γ⟩
theorem eqD_TTT : eqD (.lst [.bl true, .bl true, .bl true]) (.lst [.bl true, .bl true, .bl true]) = true := by decide +kernel
section
variable {pT : Addr} {f : Addr} {cd : Value} {A : Around} {outer : List Env} {s : Shared} {H : Hp} {E : XK} {W : Fm} {ns : List Int} {l : Int} {n : Nat} {γ : List (D × V)} {R : RD} {x4 x10 x11 x12 x13 x14 : Sl} {wd : Str} {a b c d e f0 : Int} {u u' u5 : Nat}
theorem turn8 (V : Ev K mg cP cT) (F : Defs P w K mg base cP cT pT) (FF : Facts l) (l12 : l = 1 ∨ l = 2) (hr : Room 20 (A.deeper (envOfC "law" (defScope (topS 74)) s.heap.objs.size f cd))) (hn : 1 ≤ n) (wok : WOk wd) (pab : Pr l a b) (pcd : Pr l c d) (u2 : u ≤ 2) (u2' : u' ≤ 2) {p3 : D} {t1 t2 third : D}
    (hR : TurnR ns l (.lst ((ledsOf l).map ledD)) n γ R) :
    SS (cxOf CX0 P w K mg base lawN "law" (defScope (topS 74)) f cd A outer s H E).nox W ⟨n, lawS ns l (.lst ((ledsOf l).map ledD)) x4 (.va (worldD wd l a b (u : Nat))) (.va (worldD wd l c d (u' : Nat))) (.va third) (.va (.lst [panelD cP wd l a b (u : Nat), panelD cP wd l c d (u' : Nat), p3])) (.va (.lst [.bl (trans l a b (u : Nat) c d (u' : Nat)).isSome, t1, t2])) x10 x11 x12 x13 x14, γ⟩ (lawFor.drop 8) R := by
  have l1 : 1 ≤ l := by omega
  have l8 : l ≤ 8 := by omega
  have smab := pab.sm l1 l8
  have smcd := pcd.sm l1 l8
  refine ss_cons (sn_if (st_val (se_ix (sb_nm 9 (SE.sb (se_int ?_))))))
  refine ⟨_, .lst (by decide) rfl, _, rfl, ?_⟩
  cases t0 : (trans l a b (u : Nat) c d (u' : Nat)) with
  | none => exact ss_nil (ss_nil (hR.nx _ _ _ _ _ _ _ _ _ _ _ _ (Nat.le_succ n)))
  | some tf =>
    obtain ⟨tl, tr, tg⟩ := FF.tr a b c d u u' tf pab pcd u2 u2' t0
    have uu : (u : Int) ≤ (u' : Int) := by
      by_cases q : (u' : Int) < (u : Int)
      · have e1 : trans l a b (u : Nat) c d (u' : Nat) = none := if_pos (decide_eq_true q)
        rw [e1] at t0
        cases t0
      · omega
    have led := FF.led
    refine ss_cons (sn_set 10 nd_law (se_call F.pick (hr.mono (by decide)) (sa_cons (se_va 1 (sa_cons (se_va 3 (sa_nil ?_)))))))
    refine ⟨_, _, rfl, rfl, hn, .inl ⟨_, rfl, by rw [List.length_map]; exact FF.one, by rw [List.length_map]; exact FF.few, fun d' hd' => ?_⟩⟩
    obtain ⟨g, hg, rfl⟩ := List.mem_map.mp hd'
    obtain ⟨g1, g2, g3, g4, g5, g6⟩ := tg g hg
    obtain ⟨gl, ga, gs⟩ := led g hg
    refine ss_cons (sn_set 11 nd_law (se_meth0 F.answers V.oT.cl (hr.mono (by decide)) (se_call F.translated (hr.mono (by decide)) (sa_cons (se_ix (sb_nm 8 (SE.sb (se_int ?_))))))))
    refine ⟨_, .lst (by decide) rfl, sa_cons (se_ix (sb_nm 8 (SE.sb (se_int ?_))))⟩
    refine ⟨_, .lst (by decide) rfl, sa_cons (se_call F.translator (hr.mono (by decide)) (sa_cons (se_ix (sb_nm 8 (SE.sb (se_int ?_))))))⟩
    refine ⟨_, .lst (by decide) rfl, sa_cons (se_ix (sb_nm 8 (SE.sb (se_int ?_))))⟩
    refine ⟨_, .lst (by decide) rfl, sa_nil ⟨_, _, rfl, wd, l, a, b, (u : Nat), c, d, (u' : Nat), rfl, rfl, wok, smab, smcd, ?_⟩⟩
    rw [t0]
    refine sa_cons (SF.se (sf_make F.table (hr.mono (by decide)) (sa_cons (se_int (sa_cons (se_va 2 (sa_cons (se_va 10 (sa_nil ?_)))))))))
    refine ⟨_, _, _, rfl, l, g, rfl, rfl, rfl, l12, ga, gs, sa_nil ?_⟩
    have nl : (norm l g).1.length = (norm l g).2.length := by show (tms l).length = ((tms l).map _).length; rw [List.length_map]
    have nf : (norm l g).1.length ≤ 1000 := by show (tms l).length ≤ 1000; rw [tms_len]; omega
    refine ⟨_, _, _, _, rfl, wd, l, a, b, (u : Nat), c, d, (u' : Nat), tf, norm l g, rfl, rfl, rfl, rfl, wok, uu, smab, smcd, tl, tr, l12, nl, nf, g1, g2, g3, ?_⟩
    refine ⟨_, _, rfl, by decide +kernel, _, rfl, l, norm l (transl tf (norm l g)), rfl, rfl, l12, ?_⟩
    refine ss_cons (sn_if (STt.imp (K := fun n' k => n' = n - 1 ∧ k = false) ?_ fun n' k hk => ?_))
    · refine SW.st (sw_or (st_cmp (sc_notinHas (u12 hr) (sb_nm 11 (sb_nm 3 ?_)))))
      refine ⟨_, _, (ledsOf l).map fun q => (q.1.map rw1, q.2.map tD), rfl, ?_, rowKeys _, all_lf _, fun p hp => ?_, ?_, ?_⟩
      · rw [List.map_map]
        rfl
      · obtain ⟨q, _, rfl⟩ := List.mem_map.mp hp
        exact ⟨rowKeys _, all_lf _⟩
      · obtain ⟨q, hq, he⟩ := g5
        exact ⟨_, List.mem_map.mpr ⟨q, hq, rfl⟩, he⟩
      refine sw_one (st_not (st_val (se_call F.within (hr.mono (by decide)) (sa_cons (se_call F.rings (hr.mono (by decide)) (sa_cons (se_va 5 (sa_cons (se_va 11 (sa_nil ?_))))))))))
      refine ⟨_, _, rfl, wd, l, a, b, u, norm l (transl tf (norm l g)), rfl, rfl, smab, l8, u2, g4, sa_cons (se_call F.rings (hr.mono (by decide)) (sa_cons (se_va 6 (sa_cons (se_va 10 (sa_nil ?_))))))⟩
      refine ⟨_, _, rfl, wd, l, c, d, u', g, rfl, rfl, smcd, l8, u2', gl, sa_nil ⟨_, _, rfl, _, _, rfl, rfl, rings_few smab u2, _, rfl, rfl, ?_⟩⟩
      rw [g6]
      rfl
    obtain ⟨en, ek⟩ := hk
    subst en ek
    exact ss_nil (ss_nil (ss_nil (hR.nx (n - 1) _ _ _ _ _ _ _ _ _ _ _ (by omega))))
theorem turn7 (V : Ev K mg cP cT) (F : Defs P w K mg base cP cT pT) (FF : Facts l) (l12 : l = 1 ∨ l = 2) (hr : Room 20 (A.deeper (envOfC "law" (defScope (topS 74)) s.heap.objs.size f cd))) (hn : 1 ≤ n) (wok : WOk wd) (pab : Pr l a b) (pcd : Pr l c d) (pef : Pr l e f0) (u2 : u ≤ 2) (u2' : u' ≤ 2) (u52 : u5 ≤ 2) {t1 t2 third : D}
    (hR : TurnR ns l (.lst ((ledsOf l).map ledD)) n γ R) :
    SS (cxOf CX0 P w K mg base lawN "law" (defScope (topS 74)) f cd A outer s H E).nox W ⟨n, lawS ns l (.lst ((ledsOf l).map ledD)) x4 (.va (worldD wd l a b (u : Nat))) (.va (worldD wd l c d (u' : Nat))) (.va third) (.va (.lst [panelD cP wd l a b (u : Nat), panelD cP wd l c d (u' : Nat), panelD cP wd l e f0 (u5 : Nat)])) (.va (.lst [.bl (trans l a b (u : Nat) c d (u' : Nat)).isSome, t1, t2])) x10 x11 x12 x13 x14, γ⟩ (lawFor.drop 7) R := by
  have l1 : 1 ≤ l := by omega
  have l8 : l ≤ 8 := by omega
  refine ss_cons (sn_if (STt.imp (K := fun n' k => n' = n ∧ k = false) ?_ fun n' k hk => ?_))
  · refine st_cmp (sc_ne hr.units (SE.sb (SL.se (sl_lcM (α := Int × Int × Nat) 14 rfl nd_law (si_list (se_va 8 ?_))))))
    refine ⟨_, rfl, [(a, b, u), (c, d, u'), (e, f0, u5)], fun p => panelD cP wd l p.1 p.2.1 (p.2.2 : Nat), fun _ => .bl true, rfl, Nat.le_of_ble_eq_true rfl, fun p hp γ' W' hg st Hb C cl fp Kq hq => ?_, ?_⟩
    · have hp' : (Pr l p.1 p.2.1 ∧ p.2.2 ≤ 2) := by
        have z : p = (a, b, u) ∨ p = (c, d, u') ∨ p = (e, f0, u5) := by simpa using hp
        rcases z with z | z | z
        · rw [z]; exact ⟨pab, u2⟩
        · rw [z]; exact ⟨pcd, u2'⟩
        · rw [z]; exact ⟨pef, u52⟩
      have smp := hp'.1.sm l1 l8
      refine se_call F.serves (hr.mono (by decide)) (sa_cons (se_va 14 (sa_cons (se_va 14 (sa_nil ⟨_, _, rfl, wd, l, p.1, p.2.1, (p.2.2 : Nat), p.1, p.2.1, (p.2.2 : Nat), rfl, rfl, wok, smp, smp, ?_⟩)))))
      rw [FF.self p.1 p.2.1 p.2.2 hp'.1 hp'.2]
      exact hq
    refine SE.sb (se_repL (j := 0) (SE.sb (se_lst (sa_cons (se_bl (sa_nil ⟨one_le, SE.sb (se_int ?_)⟩))))))
    refine ⟨[.bl true], 3, rfl, rfl, by decide, by decide, Nat.le_of_ble_eq_true rfl, ?_⟩
    show (D.lst [.bl true, .bl true, .bl true]).okE = true ∧ (D.lst [.bl true, .bl true, .bl true]).okE = true ∧ _ = _ ∧ (!eqD (.lst [.bl true, .bl true, .bl true]) (.lst [.bl true, .bl true, .bl true])) = false
    rw [eqD_TTT]
    exact ⟨by decide +kernel, by decide +kernel, rfl, rfl⟩
  obtain ⟨en, ek⟩ := hk
  subst en ek
  exact ss_nil (turn8 V F FF l12 hr hn wok pab pcd u2 u2' hR)
theorem turn6 (V : Ev K mg cP cT) (F : Defs P w K mg base cP cT pT) (FF : Facts l) (l12 : l = 1 ∨ l = 2) (hr : Room 20 (A.deeper (envOfC "law" (defScope (topS 74)) s.heap.objs.size f cd))) (hn : 1 ≤ n) (wok : WOk wd) (pab : Pr l a b) (pcd : Pr l c d) (pef : Pr l e f0) (u2 : u ≤ 2) (u2' : u' ≤ 2) (u52 : u5 ≤ 2) {third : D}
    (hR : TurnR ns l (.lst ((ledsOf l).map ledD)) n γ R) :
    SS (cxOf CX0 P w K mg base lawN "law" (defScope (topS 74)) f cd A outer s H E).nox W ⟨n, lawS ns l (.lst ((ledsOf l).map ledD)) x4 (.va (worldD wd l a b (u : Nat))) (.va (worldD wd l c d (u' : Nat))) (.va third) (.va (.lst [panelD cP wd l a b (u : Nat), panelD cP wd l c d (u' : Nat), panelD cP wd l e f0 (u5 : Nat)])) (.va (.lst [.bl (trans l a b (u : Nat) c d (u' : Nat)).isSome, .bl (trans l c d (u' : Nat) e f0 (u5 : Nat)).isSome, .bl (trans l a b (u : Nat) e f0 (u5 : Nat)).isSome])) x10 x11 x12 x13 x14, γ⟩ (lawFor.drop 6) R := by
  have l1 : 1 ≤ l := by omega
  have l8 : l ≤ 8 := by omega
  have smab := pab.sm l1 l8
  have smcd := pcd.sm l1 l8
  have serve := FF.serve a b c d u u' pab pcd u2 u2'
  have chain := FF.chain a b c d e f0 u u' u5 pab pcd pef u2 u2' u52
  have led := FF.led
  refine ss_cons (sn_if (STt.imp (K := fun n' k => n' = n ∧ k = false) ?_ fun n' k hk => ?_))
  · refine SW.st (sw_or (st_cmp (sc_ne hr.units (SE.sb (se_ix (sb_nm 9 (SE.sb (se_int ?_))))))))
    refine ⟨_, .lst (by decide) rfl, SE.sb (se_call F.served (hr.mono (by decide)) (sa_cons (se_va 5 (sa_cons (se_va 6 (sa_cons (se_va 3 (sa_nil ?_))))))))⟩
    refine ⟨_, _, _, rfl, wd, l, a, b, c, d, u, u', ledsOf l, rfl, rfl, rfl, smab, smcd, l8, u2, u2', FF.few, fun g hg => (led g hg).1, rfl, rfl, ?_⟩
    rw [serve, eqD_bl, decide_eq_true rfl]
    refine sw_one (SW.st (sw_and (st_val (se_ix (sb_nm 9 (SE.sb (se_int ?_)))))))
    refine ⟨_, .lst (by decide) rfl, _, rfl, ?_⟩
    cases t0 : (trans l a b (u : Nat) c d (u' : Nat)).isSome with
    | false => exact ⟨rfl, rfl⟩
    | true =>
      refine sw_and (st_val (se_ix (sb_nm 9 (SE.sb (se_int ?_)))))
      refine ⟨_, .lst (by decide) rfl, _, rfl, ?_⟩
      cases t1 : (trans l c d (u' : Nat) e f0 (u5 : Nat)).isSome with
      | false => exact ⟨rfl, rfl⟩
      | true =>
        refine sw_one (st_not (st_val (se_ix (sb_nm 9 (SE.sb (se_int ?_))))))
        refine ⟨_, .lst (by decide) rfl, _, rfl, rfl, ?_⟩
        rw [chain t0 t1]
        rfl
  obtain ⟨en, ek⟩ := hk
  subst en ek
  exact ss_nil (turn7 V F FF l12 hr hn wok pab pcd pef u2 u2' u52 hR)
end
end
end Sk
set_option maxHeartbeats 8000000
/-! F24: the law, its turns. -/
namespace Sk
open PySem PySem.Spec PyProof.Rows L2
section
variable {P : Program} {w : World} {K : PySem.W.Frag} {mg : Str → Option Value} {base : Heap} {cP cT : Addr}
theorem law_rest (V : Ev K mg cP cT) {pT : Addr} (F : Defs P w K mg base cP cT pT) (F1 : Facts 1) (F2 : Facts 2) {f : Addr} {cd : Value} {A : Around} {outer : List Env} {s : Shared} {H : Hp} {E : XK} (hr : Room 20 (A.deeper (envOfC "law" (defScope (topS 74)) s.heap.objs.size f cd))) (hgd : A.guards = some []) {W : Fm} (hT : HasT W.g [(pT, lamQ)]) {ns : List Int} (hns : ns.length ≤ 63) :
    SS (cxOf CX0 P w K mg base lawN "law" (defScope (topS 74)) f cd A outer s H E).nox W ⟨500, [.va (.scr ns), .va .src, .un, .un, .un, .un, .un, .un, .un, .un, .un, .un, .un, .un, .un], []⟩ ((defBody (topS 74)).drop 1) ⟨fun _ => False, fun _ d => d = .bl true, fun _ => False, fun _ => False⟩ := by
  refine ss_cons (sn_set 2 nd_law (se_call F.pick (hr.mono (by decide)) (sa_cons (se_va 1 (sa_cons (se_lst (sa_cons (se_int (sa_cons (se_int (sa_cons (se_int (sa_nil ?_)))))))))))))
  refine ⟨Nat.le_of_ble_eq_true rfl, sa_nil ⟨_, _, rfl, rfl, by show 1 ≤ 500; decide, .inl ⟨_, rfl, Nat.le_of_ble_eq_true rfl, Nat.le_of_ble_eq_true rfl, fun d hd => ?_⟩⟩⟩
  have hl : ∃ l : Int, d = .int l ∧ (l = 1 ∨ l = 2) := by
    have z : d = .int 1 ∨ d = .int 1 ∨ d = .int 2 := by simpa using hd
    rcases z with z | z | z
    · exact ⟨1, z, .inl rfl⟩
    · exact ⟨1, z, .inl rfl⟩
    · exact ⟨2, z, .inr rfl⟩
  obtain ⟨l, rfl, l12⟩ := hl
  have FF : Facts l := by
    rcases l12 with rfl | rfl
    · exact F1
    · exact F2
  have l1 : 1 ≤ l := by omega
  have l8 : l ≤ 8 := by omega
  refine ss_cons (sn_set 3 nd_law (se_callG (F.played (l + 1).toNat) (hr.mono (by omega)) hgd hT (sa_cons (se_va 2 (sa_cons (se_int (sa_cons (se_call F.spots (hr.mono (by decide)) (sa_cons (se_int (sa_cons (se_va 2 (sa_nil ?_)))))))))))))
  refine ⟨_, _, rfl, l, rfl, rfl, by omega, by omega, sa_nil ⟨_, _, _, rfl, l, 0, tms l, rfl, rfl, rfl, by omega, FF.good, ?_⟩⟩
  have mem : ∀ g ∈ ledsOf l, LedOk l g ∧ AnsOk l g ∧ steady l g = true := FF.led
  refine ss_cons (sn_for .never rfl (si_range1 (V.b _ (by decide +kernel)) (sa_cons (SE.imp (K := fun n' d => n' = 499 ∧ ∃ m : Int, d = .int m ∧ 1 ≤ m ∧ m ≤ 2) ?_ fun n' d hm => ?_))))
  · refine se_ifE (st_cmp (sc_eq hr.units (sb_nm 2 (SE.sb (se_int ?_)))))
    refine ⟨rfl, rfl, ?_⟩
    have e0 : eqD (.int l) (.int 2) = decide (l = 2) := by
      have z := eqD_tD (some l) (some 2)
      refine z.trans (decide_eq_decide.mpr ⟨fun y => Option.some.inj y, fun y => by rw [y]⟩)
    rw [e0]
    cases e1 : decide (l = 2) with
    | true => exact se_int ⟨rfl, 1, rfl, by decide, by decide⟩
    | false =>
      refine se_add (SE.sb (se_int (SE.sb (se_min (V.b _ (by decide +kernel)) rfl (SE.sb (se_lenScr (V.b _ (by decide +kernel)) (sb_nm 0 ?_)))))))
      refine ⟨ns, rfl, SE.sb (se_int ⟨_, _, rfl, rfl, _, .int, rfl, _, rfl, ?_, ?_⟩)⟩
      · split <;> omega
      · split <;> omega
  obtain ⟨en, m, rfl, m1, m2⟩ := hm
  subst en
  refine sa_nil ⟨m, rfl, by omega, fun k m' st => 499 ≤ m' + 40 * k ∧ ∃ x4 x5 x6 x7 x8 x9 x10 x11 x12 x13 x14, st = [.va (.scr ns), .va .src, .va (.int l), .va (.lst ((ledsOf l).map ledD)), x4, x5, x6, x7, x8, x9, x10, x11, x12, x13, x14], ⟨Nat.le_refl _, _, _, _, _, _, _, _, _, _, _, _, rfl⟩, fun k d m' st γ hd hJ => ?_, fun m' st hJ => ?_⟩
  · obtain ⟨hm', x4, x5, x6, x7, x8, x9, x10, x11, x12, x13, x14, rfl⟩ := hJ
    have kl : k < 2 := by
      have := (List.getElem?_eq_some_iff.mp hd).1
      rw [rngD_length] at this
      omega
    have hm' : 499 ≤ m' + 40 * k := hm'
    refine sg_nm 4 ?_ nd_law
    refine ss_cons (sn_unpack (se_call F.two (hr.mono (by decide)) (sa_cons (se_va 1 (sa_cons (se_int (sa_cons (se_va 2 (sa_nil ?_)))))))))
    refine ⟨_, _, _, rfl, l, rfl, rfl, rfl, l1, l8, by show 15 ≤ m'; omega, fun wd a b c d0 s s' n1 wok qa qab qb s2 qc qcd qd s2' hn1 => sg_tup2 (i := 5) (j := 6) ?_ rfl nd_law (by decide)⟩
    have hn1 : m' ≤ n1 + 15 := hn1
    have pab : Pr l a b := ⟨qa, qab, qb⟩
    have pcd : Pr l c d0 := ⟨qc, qcd, qd⟩
    refine ss_cons (sn_own 7 nd_law (sf_dictP (V.b _ (by decide +kernel)) rfl (u12 hr) (SE.sb (se_listItems (V.b _ (by decide +kernel)) rfl (sb_nm 6 ?_)))))
    refine ⟨_, _, rfl, [(.str "words", .lst [.str wd]), (.str "top", .int l), (.str "waits", .dct [.str wd] [pairD c d0]), (.str "slack", .int (s' : Nat))], rfl, wFit, Nat.le_of_ble_eq_true rfl, ?_⟩
    rw [wDict]
    refine ss_cons (sn_unpack (se_tup (sa_cons (se_dix (u9 hr) (SE.sb (se_ix (SE.sb (se_call F.two (hr.mono (by decide)) (sa_cons (se_va 1 (sa_cons (se_int (sa_cons (se_va 2 (sa_nil ?_)))))))))))))))
    refine ⟨_, _, _, rfl, l, rfl, rfl, rfl, l1, l8, by show 15 ≤ n1; omega, fun wd2 a2 b2 e f0 s3 s4 n2 wok2 qa2 qab2 qb2 s32 qe qef qf s42 hn2 => ?_⟩
    have hn2 : n1 ≤ n2 + 15 := hn2
    have pef : Pr l e f0 := ⟨qe, qef, qf⟩
    refine SE.sb (se_int ⟨_, .tup (by decide) rfl, se_str ⟨_, _, _, rfl, wko, wg2, ?_⟩⟩)
    refine sa_cons (se_call F.draw (hr.mono (by decide)) (sa_cons (se_va 1 (sa_cons (se_int (sa_nil ?_))))))
    refine ⟨_, _, rfl, 3, rfl, rfl, by decide, by decide, by show 1 ≤ n2; omega, fun y y0 y3 => sa_nil ⟨two_le, ?_⟩⟩
    obtain ⟨s5, rfl⟩ : ∃ s5 : Nat, y = (s5 : Nat) := ⟨y.toNat, by omega⟩
    have s52 : s5 ≤ 2 := by omega
    refine sg_dset2 7 rfl (u9 hr) wko (by rw [wpK2]; exact wko) (by decide) (by rw [wpK2]; decide) ?_
    rw [wpK2, wpK3, wpV2, wpV3]
    refine ss_cons (sn_dset 7 (u9 hr) (SF.se (sf_dictP (V.b _ (by decide +kernel)) rfl (u12 hr) (SE.sb (SL.se (sl_lcM (α := Unit) 12 rfl nd_law (si_values (se_dix (u9 hr) (sb_nm 7 (se_str ?_))))))))))
    refine ⟨_, _, _, rfl, wko, wg2, _, _, rfl, [()], fun _ => pairD e f0, fun _ => .tup [.str wd, pairD e f0], rfl, by decide, fun _ _ γ' W' hg st Hb C cl fp Kq hq => ?_, [(.str wd, pairD e f0)], rfl, ?_, Nat.le_of_ble_eq_true rfl, ?_⟩
    · refine se_tup (sa_cons (se_ix (SE.sb (se_dix (u9 hr) (sb_nm 5 (se_str ?_))))))
      refine ⟨_, _, _, rfl, wko, wg0, SE.sb (se_int ⟨_, .lst (by decide) rfl, sa_cons (se_va 12 (sa_nil ⟨two_le, hq⟩))⟩)⟩
    · refine ⟨fun k hk => ?_, .inl fun k hk => ?_⟩
      · have ek : k = .str wd := by simpa using hk
        rw [ek]
        exact ⟨rfl, by simp [D.nk, NestedKey.depth]⟩
      · have ek : k = .str wd := by simpa using hk
        rw [ek]
        rfl
    have ed : dictD [(D.str wd, pairD e f0)] = ([D.str wd], [pairD e f0]) := rfl
    rw [ed]
    refine se_str ⟨wko, by decide, ?_⟩
    rw [wpK2, wpV2]
    refine ss_freeze 7 (ss_cons (sn_setLc 8 (sl_lcM (α := Int × Int × Nat) 13 rfl nd_law (si_tup (se_tup (sa_cons (se_va 5 (sa_cons (se_va 6 (sa_cons (se_va 7 (sa_nil ⟨Nat.le_of_ble_eq_true rfl, ?_⟩))))))))))))
    refine ⟨_, rfl, [(a, b, s), (c, d0, s'), (e, f0, s5)], fun p => worldD wd l p.1 p.2.1 (p.2.2 : Nat), fun p => panelD cP wd l p.1 p.2.1 (p.2.2 : Nat), rfl, Nat.le_of_ble_eq_true rfl, fun p hp γ' W' hg st Hb C cl fp Kq hq => ?_, ?_⟩
    · have hp' : (Pr l p.1 p.2.1 ∧ p.2.2 ≤ 2) := by
        have z : p = (a, b, s) ∨ p = (c, d0, s') ∨ p = (e, f0, s5) := by simpa using hp
        rcases z with z | z | z
        · rw [z]; exact ⟨pab, s2⟩
        · rw [z]; exact ⟨pcd, s2'⟩
        · rw [z]; exact ⟨pef, s52⟩
      exact se_call F.board (hr.mono (by decide)) (sa_cons (se_va 13 (sa_nil ⟨_, rfl, wd, l, p.1, p.2.1, (p.2.2 : Nat), rfl, wok, hp'.1.1, hp'.1.2.1, hp'.1.2.2, l1, l8, by omega, by omega, hq⟩)))
    have smab := pab.sm l1 l8
    have smcd := pcd.sm l1 l8
    have smef := pef.sm l1 l8
    refine ss_cons (sn_set 9 nd_law (se_lst (sa_cons (se_call F.serves (hr.mono (by decide)) (sa_cons (se_ix (sb_nm 8 (SE.sb (se_int ?_)))))))))
    refine ⟨_, .lst (by decide) rfl, sa_cons (se_ix (sb_nm 8 (SE.sb (se_int ?_))))⟩
    refine ⟨_, .lst (by decide) rfl, sa_nil ⟨_, _, rfl, wd, l, a, b, (s : Nat), c, d0, (s' : Nat), rfl, rfl, wok, smab, smcd, ?_⟩⟩
    refine sa_cons (se_call F.serves (hr.mono (by decide)) (sa_cons (se_ix (sb_nm 8 (SE.sb (se_int ?_))))))
    refine ⟨_, .lst (by decide) rfl, sa_cons (se_ix (sb_nm 8 (SE.sb (se_int ?_))))⟩
    refine ⟨_, .lst (by decide) rfl, sa_nil ⟨_, _, rfl, wd, l, c, d0, (s' : Nat), e, f0, (s5 : Nat), rfl, rfl, wok, smcd, smef, ?_⟩⟩
    refine sa_cons (se_call F.serves (hr.mono (by decide)) (sa_cons (se_ix (sb_nm 8 (SE.sb (se_int ?_))))))
    refine ⟨_, .lst (by decide) rfl, sa_cons (se_ix (sb_nm 8 (SE.sb (se_int ?_))))⟩
    refine ⟨_, .lst (by decide) rfl, sa_nil ⟨_, _, rfl, wd, l, a, b, (s : Nat), e, f0, (s5 : Nat), rfl, rfl, wok, smab, smef, ?_⟩⟩
    refine sa_nil ⟨Nat.le_of_ble_eq_true rfl, ?_⟩
    refine turn6 V F FF l12 hr (by show 1 ≤ n2 - 1; omega) wok pab pcd pef s2 s2' s52 ⟨fun n d h => h, fun n' y4 y5 y6 y7 y8 y9 y10 y11 y12 y13 y14 hn' => ⟨rfl, ?_, y4, y5, y6, y7, y8, y9, y10, y11, y12, y13, y14, rfl⟩⟩
    have hn' : n2 - 1 ≤ n' + 1 := hn'
    show 499 ≤ n' + 40 * (k + 1)
    omega
  · obtain ⟨hm', x4, x5, x6, x7, x8, x9, x10, x11, x12, x13, x14, rfl⟩ := hJ
    exact ss_cons (sn_ret (se_bl rfl))
end
end Sk
set_option maxHeartbeats 8000000
/-! F25: the law, from its beginning. -/
namespace Sk
open PySem PySem.Spec PyProof.Rows L2
def spLawK (K : PySem.W.Frag) (pT : Addr) : Sp := fun vs H Q _ => ∃ (a : Addr) (ns : List Int), vs = [.ref a] ∧ SqF K H a (ns.map V.int) ∧ ns.length ≤ 63 ∧ H pT = some (.tbl #[]) ∧ ∀ H', Q (.bl true) H'
theorem SqF.same {K : PySem.W.Frag} {H H' : Hp} {a : Addr} {xs : List V} (h : SqF K H a xs) (s : Same H H') : SqF K H' a xs := by
  rcases h with ⟨o, h⟩ | h
  · exact .inl ⟨o, s _ _ h⟩
  · exact .inr h
section
variable {P : Program} {w : World} {K : PySem.W.Frag} {mg : Str → Option Value} {base : Heap} {cP cT : Addr}
/-- the source of draws is there -/
theorem re_law {pT a p q c : Addr} {H : Hp} {L C ns : List Int} (sq : SqF K H a (ns.map V.int)) (hp : H p = some (.dK [(.inr "large", .ref q), (.inr "cells", .ref c), (.inr "rest", .int 0), (.inr "turn", .int 0)])) (hq : H q = some (.lst (L.map V.int))) (hc : H c = some (.lst (C.map V.int))) (nqc : q ≠ c) (l0 : ∀ x ∈ L, 0 ≤ x) (c0 : ∀ x ∈ C, 0 ≤ x)
    (ll : L.length ≤ 63) (lc : C.length ≤ 63) (ht : H pT = some (.tbl #[])) : RE K w ⟨some (p, q, c, [(pT, lamQ)]), [p, q, c, pT], fun _ => none⟩ H [some (.ref a), some (.ref p), none, none, none, none, none, none, none, none, none, none, none, none, none] ⟨500, [.va (.scr ns), .va .src, .un, .un, .un, .un, .un, .un, .un, .un, .un, .un, .un, .un, .un], []⟩ := by
  refine ⟨rfl, fun _ _ z => (nomatch z), fun p' z => ?_, fun b hb => ?_, fun _ z => (nomatch z), fun i l e => ?_, fun i j d d' b e1 => ?_⟩
  · cases z
    refine ⟨List.mem_cons_self, List.mem_cons_of_mem _ List.mem_cons_self, ⟨List.mem_cons_of_mem _ (List.mem_cons_of_mem _ List.mem_cons_self), fun t ht' => ?_⟩, ⟨⟨L, C, 0, 0, hp, hq, hc, nqc, l0, c0, by decide, by decide, by show (0 : Int) + 500 < 1000000; decide, ll, lc⟩, fun t ht' => ?_⟩⟩
    · have e : t = (pT, lamQ) := by simpa using ht'
      rw [e]
      exact List.mem_cons_of_mem _ (List.mem_cons_of_mem _ (List.mem_cons_of_mem _ List.mem_cons_self))
    · have e : t = (pT, lamQ) := by simpa using ht'
      rw [e]
      exact LamX.TabS.nil ht
  · have z : b = p ∨ b = q ∨ b = c ∨ b = pT := by simpa using hb
    rcases z with rfl | rfl | rfl | rfl
    · exact ⟨_, hp⟩
    · exact ⟨_, hq⟩
    · exact ⟨_, hc⟩
    · exact ⟨_, ht⟩
  · match i, e with
    | 0, e => cases e; exact ⟨.ref a, rfl, a, rfl, sq⟩
    | 1, e => cases e; exact ⟨.ref p, rfl, _, rfl, rfl⟩
    | 2, e => cases e; trivial
    | 3, e => cases e; trivial
    | 4, e => cases e; trivial
    | 5, e => cases e; trivial
    | 6, e => cases e; trivial
    | 7, e => cases e; trivial
    | 8, e => cases e; trivial
    | 9, e => cases e; trivial
    | 10, e => cases e; trivial
    | 11, e => cases e; trivial
    | 12, e => cases e; trivial
    | 13, e => cases e; trivial
    | 14, e => cases e; trivial
    | i + 15, e => cases e
  · match i, e1 with
    | 0, e => cases e
    | 1, e => cases e
    | 2, e => cases e
    | 3, e => cases e
    | 4, e => cases e
    | 5, e => cases e
    | 6, e => cases e
    | 7, e => cases e
    | 8, e => cases e
    | 9, e => cases e
    | 10, e => cases e
    | 11, e => cases e
    | 12, e => cases e
    | 13, e => cases e
    | 14, e => cases e
    | i + 15, e => cases e
theorem run_law (V : Ev K mg cP cT) {pT : Addr} (D0 : Defs P w K mg base cP cT pT) (F1 : Facts 1) (F2 : Facts 2) {f : Addr} {fd : FuncData} (F0 : Fun K "law" "law" (topS 74) f fd) : RunG P w K mg base 21 f fd ["_law_script"] (spLawK K pT) := by
  obtain ⟨cd, F⟩ := Fun.funC F0
  obtain ⟨fB, fdB, GB, mB, kB, bB⟩ := ok_begun (P := P) (w := w) (base := base) V
  refine runG_of F sc_law (fun vs H Q E h => ?_) (fun A outer s H vs Q E hr hg h => ⟨fun De σ H' => De.rt = Q ∧ σ = L2.start lawN vs ∧ H' = H, ⟨fun pins s' σ H' De I hh => ?_⟩, rfl, rfl, rfl⟩)
  · obtain ⟨a, ns, rfl, _⟩ := h
    rfl
  obtain ⟨eD, eσ, eH⟩ := hh
  subst eσ eH
  obtain ⟨a, ns, rfl, sq, l63, ht, q⟩ := h
  refine wpAny_execs_cons (thn ((ps_set (i := 1) nd_law rfl (.inl rfl) (pe_call GB (hr.mono (by decide)) (by rfl) mB kB bB .nil pass0 (pa_cons (pv 0) pa_nil))).run pins s' _ H' ⟨fun σ' H2 => ∃ p q c L C, σ' = [some (.ref a), some (.ref p), none, none, none, none, none, none, none, none, none, none, none, none, none] ∧ Same H' H2 ∧ H2 p = some (.dK [(.inr "large", .ref q), (.inr "cells", .ref c), (.inr "rest", .int 0), (.inr "turn", .int 0)]) ∧ H2 q = some (.lst (List.map L2.V.int L)) ∧ H2 c = some (.lst (List.map L2.V.int C)) ∧ q ≠ c ∧ (∀ x ∈ L, 0 ≤ x) ∧ (∀ x ∈ C, 0 ≤ x) ∧ L.length ≤ 63 ∧ C.length ≤ 63, fun _ _ => False, fun _ _ => False, fun _ _ => False⟩ I ?_) fun fl s2 z => ?_)
  · refine ⟨.ref a, rfl, a, ns, rfl, sq, l63, fun H2 p q' c L C sm _ _ n1 n2 n3 h1 h2 h3 h4 h5 h6 h7 => ⟨p, q', c, L, C, rfl, sm, h1, h2, h3, n3, h4, h5, h6, h7⟩⟩
  · cases fl with
    | ret v => obtain ⟨_, _, _, _, _, y⟩ := z; exact y.elim
    | brk => obtain ⟨_, _, _, y⟩ := z; exact y.elim
    | cont => obtain ⟨_, _, _, y⟩ := z; exact y.elim
    | next =>
      obtain ⟨σ2, H2, I2, p, q', c, L, C, e2, sm, h1, h2, h3, n3, h4, h5, h6, h7⟩ := z
      subst e2
      have r := re_law (K := K) (w := w) (pT := pT) (sq.same sm) h1 h2 h3 n3 h4 h5 h6 h7 (sm _ _ ht)
      refine thn (law_rest V D0 F1 F2 hr hg ⟨_, rfl, rfl⟩ l63 pins s2 _ H2 I2 r) fun fl s3 z => ?_
      cases fl with
      | next => obtain ⟨_, _, _, _, _, y⟩ := z; exact y.elim
      | brk => obtain ⟨_, _, _, _, _, y⟩ := z; exact y.elim
      | cont => obtain ⟨_, _, _, _, _, y⟩ := z; exact y.elim
      | ret v =>
        obtain ⟨v', σ3, H3, n, d, I3, rv, _, rp, ed⟩ := z
        subst ed
        have ev : v' = .bl true := rp
        subst ev
        refine ⟨.bl true, σ3, H3, I3, rv, ?_⟩
        rw [eD]
        exact q H3
end
end Sk
set_option maxHeartbeats 8000000
/-! F26: all defs. -/
namespace Sk
open PySem PySem.Spec PyProof.Rows L2
theorem defs_ok {P : Program} {w : World} {K : PySem.W.Frag} {mg : Str → Option Value} {base : Heap} {cP cT c pT f : Addr} {fd : FuncData} (V : Ev K mg cP cT) (FL : FunC K "_law_looks_at" "_law_looks_at" (topS 68) f fd (.ref c)) (mL : mg "_law_looks_at" = some (.ref f)) (TB : LamX.TabB base mg c pT) : Defs P w K mg base cP cT pT := by
  have place := d_w_place (P := P) (w := w) (base := base) V
  have number := d_is_number (P := P) (w := w) (base := base) V
  have list := d_is_list (P := P) (w := w) (base := base) V
  have between := d_is_between V number
  have length := d_is_length V between
  have time := d_is_time V between
  have times := d_times_of (P := P) (w := w) (base := base) V
  have row := d_is_row_at V time
  have rows := d_all_rows V times
  have seenU' := d_seen_until (P := P) (w := w) (base := base) V
  have pair := d_is_pair_of V between
  have heard := d_heard_from (P := P) (w := w) (base := base) V
  have hear' := d_w_hear (P := P) (w := w) (base := base) V
  have ticks := d_w_ticks (P := P) (w := w) (base := base) V
  have sources := d_sources_by V times heard
  have read := d_is_read V heard
  have readings := d_readings V times read
  have reader' := d_reader_of V times sources readings
  have panel := d_need_panel (P := P) (w := w) (base := base) V
  have panels := d_need_panels V panel
  have transOf := d_translator_of V reader'
  have name := d_is_name (P := P) (w := w) (base := base) V
  have delays := d_delays_from V pair
  have mkPanel := i_Panel V list name length delays between
  have draw := d_w_draw (P := P) (w := w) (base := base) V
  have pick := d_w_pick V draw
  have word := d_w_word V draw pick
  have spots := d_w_spots V ticks
  have seen := d_w_seen V place
  have words := d_w_words V word
  have world := d_w_world V words draw pick
  have rings' := d_w_rings V ticks hear'
  have within' := d_w_is_within (P := P) (w := w) (base := base) V
  have oneWithin := d_w_is_one_within V within'
  have steady' := d_is_steady V seenU'
  have answers := d_are_answers V rows row time steady'
  have mkTable := i_Table V between length answers rows
  have tableFrom := d_table_from V mkTable
  have needTable := d_need_table (P := P) (w := w) (base := base) V
  have fitting := d_need_fitting (P := P) (w := w) (base := base) V
  have isReader' := d_is_reader V sources time read
  have isTrans := d_is_translator_of V isReader'
  have looksAt := d_w_looks_at V seen FL mL TB
  exact ⟨draw, pick, spots, d_w_played V seen looksAt, d_w_two_worlds V world draw pick, d_w_board V mkPanel, d_serves V panels transOf, d_translator V panels transOf, d_translated V panels isTrans needTable fitting tableFrom, mkTable, m_answers V, d_w_all_served V rings' oneWithin, rings', within'⟩
end Sk
set_option maxHeartbeats 8000000
/-! F27: what holds of the tables, worked out. -/
namespace Sk
open PySem PySem.Spec PyProof.Rows L2

def VL1 : List (List T) := [[some 0, some 0, some 0], [some 0, some 1, some 1], [some 0, some 1, none], [some 0, none, some 1], [some 0, none, none], [some 1, some 0, some 0], [some 1, some 1, some 1], [some 1, some 1, none], [some 1, none, some 1], [some 1, none, none], [none, some 0, some 0], [none, some 1, some 1], [none, some 1, none], [none, none, some 1], [none, none, none]]
def prs1 : List (Int × Int) := [(0, 0), (0, 1), (0, 2), (1, 1), (1, 2), (2, 2)]
def PH1 : List (List T) := [[some 0, some 1, none], [some 1, none, none], [none, none, none], [none, some 1, none]]
def OQ1 : List ((Int × Int) × (Int × Int)) := [((0, 0), (0, 0)), ((0, 0), (0, 1)), ((0, 0), (0, 2)), ((0, 0), (1, 1)), ((0, 0), (1, 2)), ((0, 0), (2, 2)), ((0, 1), (0, 1)), ((0, 1), (0, 2)), ((0, 1), (1, 2)), ((0, 1), (2, 2)), ((0, 2), (0, 2)), ((0, 2), (1, 2)), ((0, 2), (2, 2)), ((1, 1), (0, 1)), ((1, 1), (0, 2)), ((1, 1), (1, 1)), ((1, 1), (1, 2)), ((1, 1), (2, 2)), ((1, 2), (0, 2)), ((1, 2), (1, 2)), ((1, 2), (2, 2)), ((2, 2), (0, 2)), ((2, 2), (1, 2)), ((2, 2), (2, 2))]
def VL2 : List (List T) := [[some 0, some 0, some 0, some 0], [some 0, some 1, some 1, some 1], [some 0, some 1, some 2, some 2], [some 0, some 1, some 2, none], [some 0, some 1, none, some 2], [some 0, some 1, none, none], [some 0, some 2, some 1, some 1], [some 0, some 2, some 2, some 2], [some 0, some 2, some 2, none], [some 0, some 2, none, some 2], [some 0, some 2, none, none], [some 0, none, some 1, some 1], [some 0, none, some 2, some 2], [some 0, none, some 2, none], [some 0, none, none, some 2], [some 0, none, none, none], [some 1, some 0, some 0, some 0], [some 1, some 1, some 1, some 1], [some 1, some 1, some 2, some 2], [some 1, some 1, some 2, none], [some 1, some 1, none, some 2], [some 1, some 1, none, none], [some 1, some 2, some 1, some 1], [some 1, some 2, some 2, some 2], [some 1, some 2, some 2, none], [some 1, some 2, none, some 2], [some 1, some 2, none, none], [some 1, none, some 1, some 1], [some 1, none, some 2, some 2], [some 1, none, some 2, none], [some 1, none, none, some 2], [some 1, none, none, none], [some 2, some 0, some 0, some 0], [some 2, some 1, some 1, some 1], [some 2, some 1, some 2, some 2], [some 2, some 1, some 2, none], [some 2, some 1, none, some 2], [some 2, some 1, none, none], [some 2, some 2, some 1, some 1], [some 2, some 2, some 2, some 2], [some 2, some 2, some 2, none], [some 2, some 2, none, some 2], [some 2, some 2, none, none], [some 2, none, some 1, some 1], [some 2, none, some 2, some 2], [some 2, none, some 2, none], [some 2, none, none, some 2], [some 2, none, none, none], [none, some 0, some 0, some 0], [none, some 1, some 1, some 1], [none, some 1, some 2, some 2], [none, some 1, some 2, none], [none, some 1, none, some 2], [none, some 1, none, none], [none, some 2, some 1, some 1], [none, some 2, some 2, some 2], [none, some 2, some 2, none], [none, some 2, none, some 2], [none, some 2, none, none], [none, none, some 1, some 1], [none, none, some 2, some 2], [none, none, some 2, none], [none, none, none, some 2], [none, none, none, none]]
def prs2 : List (Int × Int) := [(0, 0), (0, 1), (0, 2), (0, 3), (1, 1), (1, 2), (1, 3), (2, 2), (2, 3), (3, 3)]
def PH2 : List (List T) := [[some 0, some 1, some 2, none], [some 1, some 2, none, none], [some 2, none, none, none], [none, none, none, none], [none, some 1, some 2, none], [none, some 2, none, none], [none, none, some 2, none]]
def OQ2 : List ((Int × Int) × (Int × Int)) := [((0, 0), (0, 0)), ((0, 0), (0, 1)), ((0, 0), (0, 2)), ((0, 0), (0, 3)), ((0, 0), (1, 1)), ((0, 0), (1, 2)), ((0, 0), (1, 3)), ((0, 0), (2, 2)), ((0, 0), (2, 3)), ((0, 0), (3, 3)), ((0, 1), (0, 1)), ((0, 1), (0, 2)), ((0, 1), (0, 3)), ((0, 1), (1, 2)), ((0, 1), (1, 3)), ((0, 1), (2, 3)), ((0, 1), (3, 3)), ((0, 2), (0, 2)), ((0, 2), (0, 3)), ((0, 2), (1, 3)), ((0, 2), (2, 3)), ((0, 2), (3, 3)), ((0, 3), (0, 3)), ((0, 3), (1, 3)), ((0, 3), (2, 3)), ((0, 3), (3, 3)), ((1, 1), (0, 1)), ((1, 1), (0, 2)), ((1, 1), (0, 3)), ((1, 1), (1, 1)), ((1, 1), (1, 2)), ((1, 1), (1, 3)), ((1, 1), (2, 2)), ((1, 1), (2, 3)), ((1, 1), (3, 3)), ((1, 2), (0, 2)), ((1, 2), (0, 3)), ((1, 2), (1, 2)), ((1, 2), (1, 3)), ((1, 2), (2, 3)), ((1, 2), (3, 3)), ((1, 3), (0, 3)), ((1, 3), (1, 3)), ((1, 3), (2, 3)), ((1, 3), (3, 3)), ((2, 2), (0, 2)), ((2, 2), (0, 3)), ((2, 2), (1, 2)), ((2, 2), (1, 3)), ((2, 2), (2, 2)), ((2, 2), (2, 3)), ((2, 2), (3, 3)), ((2, 3), (0, 3)), ((2, 3), (1, 3)), ((2, 3), (2, 3)), ((2, 3), (3, 3)), ((3, 3), (0, 3)), ((3, 3), (1, 3)), ((3, 3), (2, 3)), ((3, 3), (3, 3))]

def vals (l : Int) (p : TD T) : List T := (tms l).map (vAt p)
def readChk (l : Int) (PH : List (List T)) (a b c d : Int) (f : TD T) : Bool := decide (f.1.length = f.2.length) && (isReader a b l c d f && (decide (vals l f ∈ PH) && (tms l).all fun t => (hear a b l t).all fun h => decide (vAt f h ∈ hear c d l t)))
/-- no table of the list answers as the times themselves -/
def badChk (l : Int) (VL : List (List T)) (a b c d : Int) : Bool := VL.all fun v => (tms l).any fun t => (hear a b l t).any fun h => (hear c d l t).all fun k => (List.range 3).all fun i => !decide (ringOf (tms l, v) h 0 = ringOf (tms l, tms l) k i)
def chk (l : Int) (VL PH : List (List T)) (OQ : List ((Int × Int) × (Int × Int))) (a b c d : Int) : Bool := match reader a b l c d with
  | some f => decide (((a, b), (c, d)) ∈ OQ) && readChk l PH a b c d f
  | none => !decide (((a, b), (c, d)) ∈ OQ) && badChk l VL a b c d

theorem leds1 : ledsOf 1 = VL1.map fun v => (tms 1, v) := by decide +kernel
theorem good1 : goodP ((1 : Int) + 1).toNat 0 (tms 1) = true := by decide +kernel
theorem chk1_0 : (prs1.all fun q => chk 1 VL1 PH1 OQ1 0 0 q.1 q.2) = true := by decide +kernel
theorem chk1_1 : (prs1.all fun q => chk 1 VL1 PH1 OQ1 0 1 q.1 q.2) = true := by decide +kernel
theorem chk1_2 : (prs1.all fun q => chk 1 VL1 PH1 OQ1 0 2 q.1 q.2) = true := by decide +kernel
theorem chk1_3 : (prs1.all fun q => chk 1 VL1 PH1 OQ1 1 1 q.1 q.2) = true := by decide +kernel
theorem chk1_4 : (prs1.all fun q => chk 1 VL1 PH1 OQ1 1 2 q.1 q.2) = true := by decide +kernel
theorem chk1_5 : (prs1.all fun q => chk 1 VL1 PH1 OQ1 2 2 q.1 q.2) = true := by decide +kernel
theorem leds2 : ledsOf 2 = VL2.map fun v => (tms 2, v) := by decide +kernel
theorem good2 : goodP ((2 : Int) + 1).toNat 0 (tms 2) = true := by decide +kernel
theorem chk2_0 : (prs2.all fun q => chk 2 VL2 PH2 OQ2 0 0 q.1 q.2) = true := by decide +kernel
theorem chk2_1 : (prs2.all fun q => chk 2 VL2 PH2 OQ2 0 1 q.1 q.2) = true := by decide +kernel
theorem chk2_2 : (prs2.all fun q => chk 2 VL2 PH2 OQ2 0 2 q.1 q.2) = true := by decide +kernel
theorem chk2_3 : (prs2.all fun q => chk 2 VL2 PH2 OQ2 0 3 q.1 q.2) = true := by decide +kernel
theorem chk2_4 : (prs2.all fun q => chk 2 VL2 PH2 OQ2 1 1 q.1 q.2) = true := by decide +kernel
theorem chk2_5 : (prs2.all fun q => chk 2 VL2 PH2 OQ2 1 2 q.1 q.2) = true := by decide +kernel
theorem chk2_6 : (prs2.all fun q => chk 2 VL2 PH2 OQ2 1 3 q.1 q.2) = true := by decide +kernel
theorem chk2_7 : (prs2.all fun q => chk 2 VL2 PH2 OQ2 2 2 q.1 q.2) = true := by decide +kernel
theorem chk2_8 : (prs2.all fun q => chk 2 VL2 PH2 OQ2 2 3 q.1 q.2) = true := by decide +kernel
theorem chk2_9 : (prs2.all fun q => chk 2 VL2 PH2 OQ2 3 3 q.1 q.2) = true := by decide +kernel
end Sk
set_option maxHeartbeats 8000000
/-! F28: the facts. -/
namespace Sk
open PySem PySem.Spec PyProof.Rows L2
theorem aputK_iff {ks : List T} {k y : T} : y ∈ aputK ks k ↔ y ∈ ks ∨ y = k := by
  refine ⟨aputK_mem, fun h => ?_⟩
  unfold aputK
  cases e : ks.findIdx? fun x => decide (x = k) with
  | none =>
    show y ∈ ks ++ [k]
    rcases h with h | h
    · exact List.mem_append.mpr (.inl h)
    · exact List.mem_append.mpr (.inr (by simp [h]))
  | some i =>
    show y ∈ ks
    rcases h with h | h
    · exact h
    · subst h
      rw [List.findIdx?_eq_some_iff_getElem] at e
      obtain ⟨hi, e1, _⟩ := e
      rw [← of_decide_eq_true e1]
      exact List.getElem_mem hi
theorem foldK_iff {α : Type} (g : α → T) {y : T} : ∀ (xs : List α) (ks : List T), y ∈ xs.foldl (fun ks x => aputK ks (g x)) ks ↔ y ∈ ks ∨ ∃ x ∈ xs, y = g x
  | [], ks => by simp
  | x :: xs, ks => by
    rw [List.foldl_cons, foldK_iff g xs, aputK_iff]
    simp [or_assoc]
theorem foldR_iff (f : TD T) (s : Nat) {y : T} : ∀ (xs : List T) (ks : List T), y ∈ xs.foldl (ringK f s) ks ↔ y ∈ ks ∨ ∃ h ∈ xs, ∃ i ∈ List.range (s + 1), y = ringOf f h i
  | [], ks => by simp
  | x :: xs, ks => by
    rw [List.foldl_cons, foldR_iff f s xs]
    unfold ringK
    rw [foldK_iff]
    simp [or_assoc]
theorem mem_ringsAt {a b l : Int} {s : Nat} {f : TD T} {t y : T} : y ∈ ringsAt a b l s f t ↔ ∃ h ∈ hear a b l t, ∃ i ∈ List.range (s + 1), y = ringOf f h i := by
  unfold ringsAt
  rw [foldR_iff]
  simp
theorem within_iff {a b c d l : Int} {s s' : Nat} {f g : TD T} : within (rings a b l s f) (rings c d l s' g) = true ↔ ∀ t ∈ tms l, ∀ y ∈ ringsAt a b l s f t, y ∈ ringsAt c d l s' g t := by
  unfold within rings
  rw [List.zip_map', List.all_map, List.all_eq_true]
  refine forall_congr' fun t => forall_congr' fun _ => ?_
  show ((ringsAt a b l s f t).all fun x => decide (x ∈ ringsAt c d l s' g t)) = true ↔ _
  rw [List.all_eq_true]
  refine forall_congr' fun y => forall_congr' fun _ => ?_
  exact decide_eq_true_iff
theorem ringOf_v {f g : TD T} {h k : T} {i : Nat} (e : vAt f h = vAt g k) : ringOf f h i = ringOf g k i := by
  have e' : (aget f.1 f.2 h).getD none = (aget g.1 g.2 k).getD none := e
  unfold ringOf
  rw [e']
/-- all that the finite checks say -/
structure Chk (l : Int) (VL PH : List (List T)) (OQ : List ((Int × Int) × (Int × Int))) : Prop where
  l12 : l = 1 ∨ l = 2
  good : goodP (l + 1).toNat 0 (tms l) = true
  leds : ledsOf l = VL.map fun v => (tms l, v)
  few : VL.length ≤ 1000
  chk : ∀ a b c d, Pr l a b → Pr l c d → chk l VL PH OQ a b c d = true
  mem : tms l ∈ VL
  zero : ((tms l).map fun _ => some 0) ∈ VL
  self : ∀ a b, Pr l a b → ((a, b), (a, b)) ∈ OQ
  chain : ∀ x ∈ OQ, ∀ y ∈ OQ, x.2 = y.1 → (x.1, y.2) ∈ OQ
  ph : ∀ f ∈ PH, (∀ x ∈ f, x ∈ tms l) ∧ ∀ v ∈ VL, (f.map (vAt (tms l, v))) ∈ VL
  vl : ∀ v ∈ VL, v.length = (tms l).length ∧ (∀ x ∈ v, okT l x = true) ∧ steady l (tms l, v) = true ∧ ledEq (tms l, v) (tms l, v) = true ∧ vals l (tms l, v) = v
theorem tms_all {l : Int} {p : T → Prop} (h : l = 1 ∨ l = 2) (p0 : p none) (p1 : ∀ i : Int, 0 ≤ i → i ≤ l → p (some i)) : ∀ t ∈ tms l, p t := fun t ht => by
  have := tms_ok ht
  cases t with
  | none => exact p0
  | some i => exact p1 i this.1 this.2
theorem mem_tms {l : Int} (h : l = 1 ∨ l = 2) {t : T} (ok : okS l t) : t ∈ tms l := by
  cases t with
  | none => exact List.mem_append.mpr (.inr (by simp))
  | some i =>
    have h1 : 0 ≤ i := ok.1
    have h2 : i ≤ l := ok.2
    rcases h with rfl | rfl
    · have z : i = 0 ∨ i = 1 := by omega
      rcases z with rfl | rfl <;> decide +kernel
    · have z : i = 0 ∨ i = 1 ∨ i = 2 := by omega
      rcases z with rfl | rfl | rfl <;> decide +kernel
theorem ok_ST {l : Int} {t : T} (h : okS l t) : okT l t = true := by
  cases t with
  | none => rfl
  | some i =>
    show (decide (0 ≤ i) && decide (i ≤ l)) = true
    rw [decide_eq_true h.1, decide_eq_true h.2]
    rfl
theorem hear_okS {a b l : Int} (h0 : 0 ≤ a) {t h : T} (ht : okS l t) (hh : h ∈ hear a b l t) : okS l h := by
  cases t with
  | none =>
    have e : h = none := by simpa [hear] using hh
    subst e
    trivial
  | some i =>
    unfold hear at hh
    rcases List.mem_append.mp hh with z | z
    · obtain ⟨d, hd, rfl⟩ := List.mem_map.mp z
      rw [List.mem_filter] at hd
      obtain ⟨h1, h2⟩ := hd
      have h3 := of_decide_eq_true h2
      unfold irng at h1
      obtain ⟨j, hj, rfl⟩ := List.mem_map.mp h1
      have h4 : 0 ≤ i := ht.1
      show 0 ≤ i + (a + (j : Nat)) ∧ i + (a + (j : Nat)) ≤ l
      omega
    · by_cases q : l < i + b
      · have e : h = none := by simpa [q] using z
        subst e
        trivial
      · simp [q] at z
theorem putAll {l : Int} (h : l = 1 ∨ l = 2) (F : T → T) : (tms l).foldl (fun (h : TD T) t => (aputK h.1 t, aputV h.1 h.2 t (F t))) ([], []) = (tms l, (tms l).map F) := by
  rcases h with rfl | rfl
  · rw [tms1]
    simp [aputK, aputV, List.findIdx?_cons]
  · rw [tms2]
    simp [aputK, aputV, List.findIdx?_cons]
theorem transl_tms {l : Int} (h : l = 1 ∨ l = 2) (f : TD T) (vs : List T) : transl f (tms l, vs) = (tms l, (tms l).map fun t => vAt (tms l, vs) (vAt f t)) := putAll h fun t => vAt (tms l, vs) (vAt f t)
section
variable {l : Int} {VL PH : List (List T)} {OQ : List ((Int × Int) × (Int × Int))}
theorem Chk.mem_leds (C : Chk l VL PH OQ) {g : TD T} (h : g ∈ ledsOf l) : ∃ v ∈ VL, g = (tms l, v) := by
  rw [C.leds] at h
  obtain ⟨v, hv, e⟩ := List.mem_map.mp h
  exact ⟨v, hv, e.symm⟩
theorem Chk.norm (C : Chk l VL PH OQ) {v : List T} (h : v ∈ VL) : norm l (tms l, v) = (tms l, v) := by
  show (tms l, vals l (tms l, v)) = (tms l, v)
  rw [(C.vl v h).2.2.2.2]
theorem Chk.ans (C : Chk l VL PH OQ) {v : List T} (h : v ∈ VL) : AnsOk l (tms l, v) := by
  obtain ⟨q1, q2, _⟩ := C.vl v h
  exact ⟨q1.symm, rfl, fun t ht => ok_ST (tms_ok ht), q2, fun t ht => ht⟩
theorem Chk.led (C : Chk l VL PH OQ) {v : List T} (h : v ∈ VL) : LedOk l (tms l, v) := by
  obtain ⟨q1, q2, _⟩ := C.vl v h
  refine ⟨q1.symm, by show (tms l).length ≤ 1000; rcases C.l12 with rfl | rfl <;> decide, fun t ht => ?_⟩
  exact ⟨_, (led_get (f := (tms l, v)) q1.symm (mem_tms C.l12 ht)).1⟩
theorem Chk.val (C : Chk l VL PH OQ) {v : List T} (h : v ∈ VL) (t : T) : okT l (vAt (tms l, v) t) = true := by
  obtain ⟨q1, q2, _⟩ := C.vl v h
  unfold vAt
  cases e : aget (tms l) v t with
  | none => rfl
  | some x => exact q2 x (aget_mem e)
theorem trans_some {a b c d : Int} {s s' : Nat} {f : TD T} (h : trans l a b (s : Nat) c d (s' : Nat) = some f) : s ≤ s' ∧ reader a b l c d = some f := by
  unfold trans at h
  by_cases q : ((s' : Nat) : Int) < ((s : Nat) : Int)
  · rw [if_pos (decide_eq_true q)] at h
    cases h
  · rw [if_neg (by rw [decide_eq_true_iff]; exact q)] at h
    exact ⟨by omega, h⟩
theorem trans_none {a b c d : Int} {s s' : Nat} (h : trans l a b (s : Nat) c d (s' : Nat) = none) : s' < s ∨ s ≤ s' ∧ reader a b l c d = none := by
  unfold trans at h
  by_cases q : ((s' : Nat) : Int) < ((s : Nat) : Int)
  · exact .inl (by omega)
  · rw [if_neg (by rw [decide_eq_true_iff]; exact q)] at h
    exact .inr ⟨by omega, h⟩
theorem trans_of {a b c d : Int} {s s' : Nat} {f : TD T} (hs : s ≤ s') (h : reader a b l c d = some f) : trans l a b (s : Nat) c d (s' : Nat) = some f := by
  unfold trans
  rw [if_neg (by rw [decide_eq_true_iff]; omega)]
  exact h
theorem Chk.rd (C : Chk l VL PH OQ) {a b c d : Int} {f : TD T} (p : Pr l a b) (q : Pr l c d) (h : reader a b l c d = some f) : ((a, b), (c, d)) ∈ OQ ∧ f.1.length = f.2.length ∧ isReader a b l c d f = true ∧ vals l f ∈ PH ∧ ∀ t ∈ tms l, ∀ k ∈ hear a b l t, vAt f k ∈ hear c d l t := by
  have z := C.chk a b c d p q
  unfold Sk.chk at z
  rw [h] at z
  have z' : (decide (((a, b), (c, d)) ∈ OQ) && readChk l PH a b c d f) = true := z
  unfold readChk at z'
  rw [Bool.and_eq_true, Bool.and_eq_true, Bool.and_eq_true, Bool.and_eq_true] at z'
  obtain ⟨z0, z1, z2, z3, z4⟩ := z'
  refine ⟨of_decide_eq_true z0, of_decide_eq_true z1, z2, of_decide_eq_true z3, fun t ht k hk => ?_⟩
  exact of_decide_eq_true (List.all_eq_true.mp (List.all_eq_true.mp z4 t ht) k hk)
theorem Chk.rn (C : Chk l VL PH OQ) {a b c d : Int} (p : Pr l a b) (q : Pr l c d) (h : reader a b l c d = none) : ((a, b), (c, d)) ∉ OQ ∧ badChk l VL a b c d = true := by
  have z := C.chk a b c d p q
  unfold Sk.chk at z
  rw [h] at z
  have z' : (!decide (((a, b), (c, d)) ∈ OQ) && badChk l VL a b c d) = true := z
  rw [Bool.and_eq_true] at z'
  obtain ⟨z0, z1⟩ := z'
  refine ⟨fun hm => ?_, z1⟩
  rw [decide_eq_true hm] at z0
  cases z0
theorem Chk.iff (C : Chk l VL PH OQ) {a b c d : Int} (p : Pr l a b) (q : Pr l c d) : (reader a b l c d).isSome = true ↔ ((a, b), (c, d)) ∈ OQ := by
  cases e : reader a b l c d with
  | none =>
    have := (C.rn p q e).1
    exact ⟨fun h => (by cases h), fun h => absurd h this⟩
  | some f => exact ⟨fun _ => (C.rd p q e).1, fun _ => rfl⟩
theorem Chk.move (C : Chk l VL PH OQ) {a b c d : Int} {f : TD T} (p : Pr l a b) (q : Pr l c d) (h : reader a b l c d = some f) {v : List T} (hv : v ∈ VL) :
    ∃ u ∈ VL, transl f (tms l, v) = (tms l, u) ∧ (∀ t ∈ tms l, vAt f t ∈ tms l) ∧ ∀ t ∈ tms l, vAt (tms l, u) t = vAt (tms l, v) (vAt f t) := by
  obtain ⟨_, _, _, z3, _⟩ := C.rd p q h
  obtain ⟨z4, z5⟩ := C.ph _ z3
  have e1 : (vals l f).map (vAt (tms l, v)) = (tms l).map fun t => vAt (tms l, v) (vAt f t) := by
    unfold vals
    rw [List.map_map]
    rfl
  have z6 := z5 v hv
  rw [e1] at z6
  refine ⟨_, z6, transl_tms C.l12 f v, fun t ht => z4 _ (List.mem_map.mpr ⟨t, ht, rfl⟩), fun t ht => ?_⟩
  have e2 := (C.vl _ z6).2.2.2.2
  unfold vals at e2
  have e3 := List.map_inj_left.mp e2
  exact e3 t ht
theorem Chk.within (C : Chk l VL PH OQ) {a b c d : Int} {s s' : Nat} {f : TD T} (p : Pr l a b) (q : Pr l c d) (h : reader a b l c d = some f) (hs : s ≤ s') {v u : List T} (e : ∀ t ∈ tms l, vAt (tms l, u) t = vAt (tms l, v) (vAt f t)) : within (rings a b l s (tms l, u)) (rings c d l s' (tms l, v)) = true := by
  obtain ⟨_, _, _, _, z4⟩ := C.rd p q h
  rw [within_iff]
  intro t ht y hy
  obtain ⟨k, hk, i, hi, rfl⟩ := mem_ringsAt.mp hy
  refine mem_ringsAt.mpr ⟨vAt f k, z4 t ht k hk, i, ?_, ringOf_v (e k (mem_tms C.l12 (hear_okS p.1 (tms_ok ht) hk)))⟩
  rw [List.mem_range] at hi ⊢
  omega
theorem Chk.serve (C : Chk l VL PH OQ) {a b c d : Int} {s s' : Nat} (p : Pr l a b) (q : Pr l c d) (hs : s ≤ 2) (hs' : s' ≤ 2) : allServed (rings a b l s) (rings c d l s') (ledsOf l) = (trans l a b (s : Nat) c d (s' : Nat)).isSome := by
  cases e : trans l a b (s : Nat) c d (s' : Nat) with
  | some f =>
    obtain ⟨ss, er⟩ := trans_some e
    show allServed _ _ _ = true
    unfold allServed
    rw [List.all_eq_true]
    intro g hg
    obtain ⟨v, hv, rfl⟩ := C.mem_leds hg
    obtain ⟨u, hu, _, _, hw⟩ := C.move p q er hv
    rw [List.any_eq_true]
    refine ⟨_, List.mem_map.mpr ⟨(tms l, u), ?_, rfl⟩, C.within p q er ss hw⟩
    rw [C.leds]
    exact List.mem_map.mpr ⟨u, hu, rfl⟩
  | none =>
    show allServed _ _ _ = false
    unfold allServed
    rw [List.all_eq_false]
    have nt : (none : T) ∈ tms l := List.mem_append.mpr (.inr (by simp))
    rcases trans_none e with ss | ⟨ss, er⟩
    · refine ⟨(tms l, (tms l).map fun _ => some 0), ?_, ?_⟩
      · rw [C.leds]
        exact List.mem_map.mpr ⟨_, C.zero, rfl⟩
      rw [Bool.not_eq_true, List.any_eq_false]
      intro r hr
      obtain ⟨g, hg, rfl⟩ := List.mem_map.mp hr
      obtain ⟨v, hv, rfl⟩ := C.mem_leds hg
      rw [within_iff]
      intro z
      have z1 := z none nt (ringOf (tms l, v) none s) (mem_ringsAt.mpr ⟨none, by simp [hear], s, by simp, rfl⟩)
      obtain ⟨k, hk, i, hi, ey⟩ := mem_ringsAt.mp z1
      have ek : k = none := by simpa [hear] using hk
      subst ek
      have e0 : vAt (tms l, (tms l).map fun _ => some 0) none = some 0 := by rcases C.l12 with rfl | rfl <;> rfl
      have e1 : ringOf (tms l, (tms l).map fun _ => some 0) none i = some (0 + (0 + (i : Nat) : Int)) := by
        have e' : (aget (tms l) ((tms l).map fun _ => some (0 : Int)) none).getD none = some 0 := e0
        unfold ringOf
        rw [e']
      rw [e1] at ey
      have ok := C.val hv none
      rw [List.mem_range] at hi
      unfold ringOf at ey
      have eq1 : (aget (tms l) v none).getD none = vAt (tms l, v) none := rfl
      rw [eq1] at ey
      cases ev : vAt (tms l, v) none with
      | none => rw [ev] at ey; cases ey
      | some x =>
        rw [ev] at ey ok
        have ok' : (decide (0 ≤ x) && decide (x ≤ l)) = true := ok
        rw [Bool.and_eq_true] at ok'
        have o1 := of_decide_eq_true ok'.1
        have ey' : x + (0 + (s : Nat) : Int) = 0 + (0 + (i : Nat) : Int) := Option.some.inj ey
        omega
    · refine ⟨(tms l, tms l), ?_, ?_⟩
      · rw [C.leds]
        exact List.mem_map.mpr ⟨_, C.mem, rfl⟩
      rw [Bool.not_eq_true, List.any_eq_false]
      intro r hr
      obtain ⟨g, hg, rfl⟩ := List.mem_map.mp hr
      obtain ⟨v, hv, rfl⟩ := C.mem_leds hg
      rw [within_iff]
      intro z
      have zb := (C.rn p q er).2
      unfold badChk at zb
      have zc := List.all_eq_true.mp zb v hv
      rw [List.any_eq_true] at zc
      obtain ⟨t, ht, zc⟩ := zc
      rw [List.any_eq_true] at zc
      obtain ⟨h, hh, zc⟩ := zc
      obtain ⟨k, hk, i, hi, ey⟩ := mem_ringsAt.mp (z t ht _ (mem_ringsAt.mpr ⟨h, hh, 0, by simp, rfl⟩))
      have zd := List.all_eq_true.mp (List.all_eq_true.mp zc k hk) i (by rw [List.mem_range] at hi ⊢; omega)
      rw [decide_eq_true ey] at zd
      cases zd
theorem Chk.facts (C : Chk l VL PH OQ) : Facts l where
  good := C.good
  few := by
    rw [C.leds, List.length_map]
    exact C.few
  one := by
    rw [C.leds, List.length_map]
    exact List.length_pos_of_mem C.mem
  led := fun f hf => by
    obtain ⟨v, hv, rfl⟩ := C.mem_leds hf
    exact ⟨C.led hv, C.ans hv, (C.vl v hv).2.2.1⟩
  serve := fun a b c d s s' p q hs hs' => C.serve p q hs hs'
  chain := fun a b c d e f s s' s'' p q r hs hs' hs'' h1 h2 => by
    obtain ⟨f1, e1⟩ := Option.isSome_iff_exists.mp h1
    obtain ⟨f2, e2⟩ := Option.isSome_iff_exists.mp h2
    obtain ⟨s1, r1⟩ := trans_some e1
    obtain ⟨s2, r2⟩ := trans_some e2
    have m := C.chain _ (C.rd p q r1).1 _ (C.rd q r r2).1 rfl
    obtain ⟨f3, e3⟩ := Option.isSome_iff_exists.mp ((C.iff p r).mpr m)
    rw [trans_of (Nat.le_trans s1 s2) e3]
    rfl
  self := fun a b s p hs => by
    obtain ⟨f3, e3⟩ := Option.isSome_iff_exists.mp ((C.iff p p).mpr (C.self a b p))
    rw [trans_of (Nat.le_refl s) e3]
    rfl
  tr := fun a b c d s s' f p q hs hs' h => by
    obtain ⟨ss, er⟩ := trans_some h
    obtain ⟨_, z1, z2, z3, z4⟩ := C.rd p q er
    refine ⟨z1, z2, fun g hg => ?_⟩
    obtain ⟨v, hv, rfl⟩ := C.mem_leds hg
    obtain ⟨u, hu, y1, y2, y3⟩ := C.move p q er hv
    rw [C.norm hv, y1, C.norm hu]
    refine ⟨y2, C.ans hu, (C.vl u hu).2.2.1, C.led hu, ⟨(tms l, u), ?_, (C.vl u hu).2.2.2.1⟩, C.within p q er ss y3⟩
    rw [C.leds]
    exact List.mem_map.mpr ⟨u, hu, rfl⟩
end
end Sk
set_option maxHeartbeats 8000000
/-! F29: the facts, worked out. -/
namespace Sk
open PySem PySem.Spec PyProof.Rows L2
theorem prs1_mem {a b : Int} (h : Pr 1 a b) : (a, b) ∈ prs1 := by
  obtain ⟨h1, h2, h3⟩ := h
  have za : a = 0 ∨ a = 1 ∨ a = 2 := by omega
  have zb : b = 0 ∨ b = 1 ∨ b = 2 := by omega
  rcases za with rfl | rfl | rfl <;> rcases zb with rfl | rfl | rfl <;> first | decide +kernel | (exfalso; omega)
theorem prs2_mem {a b : Int} (h : Pr 2 a b) : (a, b) ∈ prs2 := by
  obtain ⟨h1, h2, h3⟩ := h
  have za : a = 0 ∨ a = 1 ∨ a = 2 ∨ a = 3 := by omega
  have zb : b = 0 ∨ b = 1 ∨ b = 2 ∨ b = 3 := by omega
  rcases za with rfl | rfl | rfl | rfl <;> rcases zb with rfl | rfl | rfl | rfl <;> first | decide +kernel | (exfalso; omega)
theorem chkA1 (a b c d : Int) (p : Pr 1 a b) (q : Pr 1 c d) : chk 1 VL1 PH1 OQ1 a b c d = true := by
  have m := prs1_mem q
  have z : (a = 0 ∧ b = 0) ∨ (a = 0 ∧ b = 1) ∨ (a = 0 ∧ b = 2) ∨ (a = 1 ∧ b = 1) ∨ (a = 1 ∧ b = 2) ∨ (a = 2 ∧ b = 2) := by
    obtain ⟨h1, h2, h3⟩ := p
    omega
  rcases z with ⟨rfl, rfl⟩ | ⟨rfl, rfl⟩ | ⟨rfl, rfl⟩ | ⟨rfl, rfl⟩ | ⟨rfl, rfl⟩ | ⟨rfl, rfl⟩
  · exact (List.all_eq_true.mp chk1_0 (c, d) m :)
  · exact (List.all_eq_true.mp chk1_1 (c, d) m :)
  · exact (List.all_eq_true.mp chk1_2 (c, d) m :)
  · exact (List.all_eq_true.mp chk1_3 (c, d) m :)
  · exact (List.all_eq_true.mp chk1_4 (c, d) m :)
  · exact (List.all_eq_true.mp chk1_5 (c, d) m :)
theorem chk_1 : Chk 1 VL1 PH1 OQ1 where
  l12 := by decide
  good := good1
  leds := leds1
  few := by decide +kernel
  chk := chkA1
  mem := by decide +kernel
  zero := by decide +kernel
  self := fun a b p => by
    have z : ∀ x ∈ prs1, (x, x) ∈ OQ1 := by decide +kernel
    exact z _ (prs1_mem p)
  chain := by decide +kernel
  ph := by decide +kernel
  vl := by decide +kernel
theorem facts1 : Facts 1 := chk_1.facts
theorem chkA2 (a b c d : Int) (p : Pr 2 a b) (q : Pr 2 c d) : chk 2 VL2 PH2 OQ2 a b c d = true := by
  have m := prs2_mem q
  have z : (a = 0 ∧ b = 0) ∨ (a = 0 ∧ b = 1) ∨ (a = 0 ∧ b = 2) ∨ (a = 0 ∧ b = 3) ∨ (a = 1 ∧ b = 1) ∨ (a = 1 ∧ b = 2) ∨ (a = 1 ∧ b = 3) ∨ (a = 2 ∧ b = 2) ∨ (a = 2 ∧ b = 3) ∨ (a = 3 ∧ b = 3) := by
    obtain ⟨h1, h2, h3⟩ := p
    omega
  rcases z with ⟨rfl, rfl⟩ | ⟨rfl, rfl⟩ | ⟨rfl, rfl⟩ | ⟨rfl, rfl⟩ | ⟨rfl, rfl⟩ | ⟨rfl, rfl⟩ | ⟨rfl, rfl⟩ | ⟨rfl, rfl⟩ | ⟨rfl, rfl⟩ | ⟨rfl, rfl⟩
  · exact (List.all_eq_true.mp chk2_0 (c, d) m :)
  · exact (List.all_eq_true.mp chk2_1 (c, d) m :)
  · exact (List.all_eq_true.mp chk2_2 (c, d) m :)
  · exact (List.all_eq_true.mp chk2_3 (c, d) m :)
  · exact (List.all_eq_true.mp chk2_4 (c, d) m :)
  · exact (List.all_eq_true.mp chk2_5 (c, d) m :)
  · exact (List.all_eq_true.mp chk2_6 (c, d) m :)
  · exact (List.all_eq_true.mp chk2_7 (c, d) m :)
  · exact (List.all_eq_true.mp chk2_8 (c, d) m :)
  · exact (List.all_eq_true.mp chk2_9 (c, d) m :)
theorem chk_2 : Chk 2 VL2 PH2 OQ2 where
  l12 := by decide
  good := good2
  leds := leds2
  few := by decide +kernel
  chk := chkA2
  mem := by decide +kernel
  zero := by decide +kernel
  self := fun a b p => by
    have z : ∀ x ∈ prs2, (x, x) ∈ OQ2 := by decide +kernel
    exact z _ (prs2_mem p)
  chain := by decide +kernel
  ph := by decide +kernel
  vl := by decide +kernel
theorem facts2 : Facts 2 := chk_2.facts
end Sk
set_option maxHeartbeats 8000000
/-! Z1: the law's call. -/
namespace Sk
open PySem PySem.Spec PyProof.Rows L2
/-- what is there when the law is called -/
structure Outset (K : PySem.W.Frag) (mg mb : Str → Option Value) (s : Shared) (a c pT : Addr) (us : List Value) (ns : List Int) : Prop where
  kin : K.In s.heap
  gl : s.heap.Ns mainGlobals mg
  bu : s.heap.Ns builtinsNs mb
  bb : ∀ x : Str, x ≠ "__name__" → mb x = bootBuiltins x
  nl : s.heap.NoLimit
  ge : s.gens = #[]
  tab : s.heap.get? pT = some (PySem.W.tabObj #[])
  ntab : K.lookup pT = none
  hd : PySem.W.CodeHd s.heap c pT
  bm : ∃ (m : Addr) (om : Obj), mg "__builtins__" = some (.ref m) ∧ m ≠ builtinsNs ∧ s.heap.get? m = some om ∧ om.cls = .type "module" ∧ om.dict = some builtinsNs ∧ om.data = .plain
  arg : s.heap.get? a = some { cls := .type "list", data := .seq us.toArray }
  nums : IntsAre us ns
  few : ns.length ≤ 63
/-- what is tracked then: the table of the code object, and the script if it is not known -/
structure Tracks (K : PySem.W.Frag) (P : Program) (w : World) (s : Shared) (a pT : Addr) (ns : List Int) (H : Hp) : Prop where
  t : H pT = some (.tbl #[])
  sq : SqF K H a (ns.map V.int)
  ok : HOk P w H s.heap
  only : ∀ b, H b ≠ none → b = pT ∨ b = a ∧ K.lookup a = none ∧ ∃ o u, H b = some (.frz o u)
section
variable {P : Program} {w : World} {K : PySem.W.Frag} {mg mb : Str → Option Value} {fa a c pT : Addr} {fd : FuncData} {s : Shared} {us : List Value} {ns : List Int} {H : Hp}
theorem Outset.nAT (O : Outset K mg mb s a c pT us ns) : a ≠ pT := fun z => by
  have e := O.arg
  rw [z, O.tab] at e
  cases e
theorem Tracks.un (O : Outset K mg mb s a c pT us ns) (T : Tracks K P w s a pT ns H) {b : Addr} {o : Obj} (e : s.heap.get? b = some o) (h : (∃ es ep, o.data = .dict es ep) ∨ o.data = .plain ∨ ∃ vs : Array Value, o.data = .fields vs ∧ vs ≠ #[]) : H b = none := by
  cases q : H b with
  | none => rfl
  | some x =>
    exfalso
    rcases T.only b (by rw [q]; exact Option.some_ne_none x) with z | ⟨z, _⟩
    · rw [z, O.tab] at e
      cases e
      rcases h with ⟨es, ep, h⟩ | h | ⟨vs, h, n⟩
      · cases h
      · cases h
      · cases h
        exact n rfl
    · rw [z, O.arg] at e
      cases e
      rcases h with ⟨es, ep, h⟩ | h | ⟨vs, h, n⟩
      · cases h
      · cases h
      · cases h
theorem Tracks.nsp (O : Outset K mg mb s a c pT us ns) (T : Tracks K P w s a pT ns H) {b : Addr} {m : Str → Option Value} (h : s.heap.Ns b m) : (hidT s.heap H).Ns b m := by
  obtain ⟨o, es, ep, h1, h2, h3⟩ := h
  exact ⟨o, es, ep, hidT_get h1 (T.un O h1 (.inl ⟨es, ep, h2⟩)), h2, h3⟩
theorem Tracks.kin (O : Outset K mg mb s a c pT us ns) (T : Tracks K P w s a pT ns H) : K.In (hidT s.heap H) := by
  intro b o e
  refine hidT_get (O.kin b o e) ?_
  cases q : H b with
  | none => rfl
  | some x =>
    exfalso
    rcases T.only b (by rw [q]; exact Option.some_ne_none x) with z | ⟨z, z', _⟩
    · rw [z, O.ntab] at e
      cases e
    · rw [z, z'] at e
      cases e
theorem Tracks.tabB (O : Outset K mg mb s a c pT us ns) (T : Tracks K P w s a pT ns H) : LamX.TabB (hidT s.heap H) mg c pT := by
  refine ⟨?_, ?_, fun z => ?_⟩
  · obtain ⟨oc, vs, x1, x2, x3, x4, x5, x6, x7, h0, h1, h2, h3, hrest⟩ := O.hd
    refine ⟨oc, vs, x1, x2, x3, x4, x5, x6, x7, hidT_get h0 (T.un O h0 (.inr (.inr ⟨vs, h2, fun z => ?_⟩))), h1, h2, h3, hrest⟩
    rw [z] at h3
    cases h3
  · obtain ⟨m, om, m1, m2, m3, m4, m5, m6⟩ := O.bm
    have nm : m ≠ mainGlobals := fun z => by
      obtain ⟨og, es, ep, h1, h2, _⟩ := O.gl
      rw [← z, m3] at h1
      cases h1
      rw [m6] at h2
      cases h2
    have np : m ≠ pT := fun z => by
      rw [z, O.tab] at m3
      cases m3
      cases m6
    exact ⟨m, om, m1, m2, nm, np, hidT_get m3 (T.un O m3 (.inr (.inl m6))), m4, m5, m6⟩
  · obtain ⟨og, es, ep, h1, h2, _⟩ := O.gl
    rw [z, O.tab] at h1
    cases h1
    cases h2
theorem Outset.tracks (O : Outset K mg mb s a c pT us ns) : ∃ H, Tracks K P w s a pT ns H := by
  have rv := vals_ints O.nums
  have le := O.nums.length
  have nat := O.nAT
  have f2 : ns.length ≤ sizeLine := Nat.le_trans O.few (by decide)
  cases hk : K.lookup a with
  | some o =>
    have e := O.kin a o hk
    rw [O.arg] at e
    cases e
    refine ⟨fun b => if b = pT then some (.tbl #[]) else none, if_pos rfl, .inr fun H' => .inr ⟨_, us.toArray, _, hk, rfl, rfl, rfl, ?_, ?_⟩, fun b u z => ?_, fun b z => ?_⟩
    · rw [List.size_toArray, le]
      exact f2
    · exact rv
    · by_cases hb : b = pT
      · cases (if_pos hb).symm.trans z
        rw [hb]
        exact O.tab
      · cases (if_neg hb).symm.trans z
    · by_cases hb : b = pT
      · exact .inl hb
      · exact absurd (if_neg hb) z
  | none =>
    refine ⟨fun b => if b = pT then some (.tbl #[]) else if b = a then some (.frz { cls := .type "list", data := .seq us.toArray } (.lst (ns.map V.int))) else none, if_pos rfl, .inl ⟨_, (if_neg nat).trans (if_pos rfl)⟩, fun b u z => ?_, fun b z => ?_⟩
    · by_cases hb : b = pT
      · cases (if_pos hb).symm.trans z
        rw [hb]
        exact O.tab
      · have z1 := (if_neg hb).symm.trans z
        by_cases hb2 : b = a
        · cases (if_pos hb2).symm.trans z1
          subst hb2
          exact ⟨O.arg, by rw [List.length_map]; exact f2, us, _, rv, O.arg⟩
        · cases (if_neg hb2).symm.trans z1
    · by_cases hb : b = pT
      · exact .inl hb
      · by_cases hb2 : b = a
        · exact .inr ⟨hb2, hk, _, _, (if_neg hb).trans (if_pos hb2)⟩
        · exact absurd ((if_neg hb).trans (if_neg hb2)) z
/-- THE CALL -/
theorem law_end (O : Outset K mg mb s a c pT us ns) (hr : Room 21 callerA) (F : ∀ base : Heap, LamX.TabB base mg c pT → RunG P w K mg base 21 fa fd ["_law_script"] (spLawK K pT)) (hb : BindsTo s fd ⟨[.ref a], []⟩ [("_law_script", .ref a)]) :
    codeAny (model P w) callerA (.call (.ref fa) ⟨[.ref a], []⟩) (fun r s' => r = .ok (.ret (.bool true)) ∧ OldK s.heap s'.heap ∧ s'.os = s.os ∧ AllBare s'.gens) s := by
  obtain ⟨H, T⟩ := O.tracks (P := P) (w := w)
  have md : L2.Mod K mg (hidT s.heap H) := by
    obtain ⟨mc, n1, n2⟩ := O.nl
    exact ⟨T.kin O, T.nsp O O.gl, ⟨mb, T.nsp O O.bu, O.bb⟩, mc, T.nsp O n1, n2⟩
  have ev : Env0 P w K mg (hidT s.heap H) callerA [] s H := by
    refine ⟨rfl, md, fun b o e => of_hidT e, Nat.le_of_eq (hidT_size _ _), trivial, fun b h => ?_, T.ok, .of_eq O.ge⟩
    cases h
  have rn := (F _ (T.tabB O)).run callerA [] s H [.ref a] [.ref a] (fun v _ => v = .bl true) (fun _ _ _ => False) hr rfl ev hb (.cons rfl .nil) ⟨a, ns, rfl, T.sq, O.few, T.t, fun _ => rfl⟩
  refine codeAny_mono rn fun r s' h => ?_
  match r, h with
  | .error e, h => exact False.elim h
  | .ok .next, h => exact False.elim h
  | .ok .brk, h => exact False.elim h
  | .ok .cont, h => exact False.elim h
  | .ok (.ret u), h =>
    obtain ⟨v, H', os, bare, un, ok', rel, e⟩ := h
    have e' : v = .bl true := e
    subst e'
    have eu : u = Value.bool true := rel
    subst eu
    obtain ⟨more, ht⟩ := un.tbls pT #[] T.t
    have ht' : s'.heap.get? pT = some (PySem.W.tabObj (#[] ++ more)) := ok' pT _ ht
    have old : ∀ b o, b ≠ pT → s.heap.get? b = some o → s'.heap.get? b = some o := fun b o n h0 => by
      cases q : H b with
      | none => exact un.keep b o h0 q (fun z => by cases z) (fun z => by cases z)
      | some x =>
        rcases T.only b (by rw [q]; exact Option.some_ne_none x) with z | ⟨_, _, ob, y, z⟩
        · exact absurd z n
        · have y1 := (T.ok b _ z).1
          rw [h0] at y1
          cases y1
          exact (ok' b _ (un.frzs b o y z)).1
    refine ⟨rfl, ⟨fun b o h0 => ?_, fun b o h0 => ?_⟩, os, bare⟩
    · by_cases hp : b = pT
      · subst hp
        rw [O.tab] at h0
        cases h0
        refine .inr (.inl ⟨(O.hd.tab O.tab).isCodeTable, rfl, #[], more, rfl, ht'⟩)
      · exact .inl (old b o hp h0)
    · by_cases hp : b = pT
      · subst hp
        exact ⟨_, ht'⟩
      · exact ⟨o, old b o hp h0⟩
end
end Sk
set_option maxHeartbeats 8000000
/-! Z2: what the top has left, and the walk. -/
namespace Sk
open PySem PySem.Spec PyProof.Rows L2
section
variable {K : PySem.W.Frag} {h : Heap} {mg : Str → Option Value}
theorem fun_at {x qual : Str} {st : Stmt} {f : Addr} {oc : Value} {od an : Option Addr} {sl : Array (Option Value)} {kV dc pm cd ct : Value}
    (lk : K.lookup f = some ⟨oc, od, .func (PySem.W.fnOf x qual (defArgs st) (defBody st) (defScope st) .none kV dc pm an cd ct), sl⟩) (hc : PySem.W.codeIn K cd qual = true) (hk : PySem.W.keepIn K (.ref f) = true) : ∃ fd, Fun K x qual st f fd := ⟨_, fun_mk lk hc hk⟩
theorem topF_mk (X : K.In h) (G : h.Ns mainGlobals mg) {x : Str} {i : Nat} {f : Addr} {oc : Value} {od an : Option Addr} {sl : Array (Option Value)} {kV dc pm cd ct : Value} (ha : PySem.W.nsIn K mainGlobals x = some (some (.ref f)))
    (lk : K.lookup f = some ⟨oc, od, .func (PySem.W.fnOf x x (defArgs (topS i)) (defBody (topS i)) (defScope (topS i)) .none kV dc pm an cd ct), sl⟩) (hc : PySem.W.codeIn K cd x = true) (hk : PySem.W.keepIn K (.ref f) = true) : TopF K mg (tn x i).1 (tn x i).2 := ⟨f, _, fun_mk lk hc hk, PySem.W.mg_of X G ha⟩
def AllT (K : PySem.W.Frag) (mg : Str → Option Value) : List (Str × Nat) → Prop
  | [] => True
  | p :: r => TopF K mg p.1 p.2 ∧ AllT K mg r
theorem allT_of : ∀ {l : List (Str × Nat)}, AllT K mg l → ∀ p, p ∈ l → TopF K mg p.1 p.2
  | [], _, p, hp => by cases hp
  | q :: r, a, p, hp => by
    rcases List.mem_cons.mp hp with e | e
    · rw [e]
      exact a.1
    · exact allT_of a.2 p e
def AllB (K : PySem.W.Frag) : List Str → Prop
  | [] => True
  | x :: r => PySem.W.nsIn K mainGlobals x = some none ∧ AllB K r
theorem allB_of (X : K.In h) (G : h.Ns mainGlobals mg) : ∀ {l : List Str}, AllB K l → ∀ x, x ∈ l → mg x = none
  | [], _, x, hx => by cases hx
  | y :: r, a, x, hx => by
    rcases List.mem_cons.mp hx with e | e
    · rw [e]
      exact PySem.W.mg_none_of X G a.1
    · exact allB_of X G a.2 x e
theorem looks_mk {f c pT : Addr} {oc : Value} {od an : Option Addr} {sl : Array (Option Value)} {kV dc pm ct : Value}
    (lk : K.lookup f = some ⟨oc, od, .func (PySem.W.fnOf "_law_looks_at" "_law_looks_at" (defArgs (topS 68)) (defBody (topS 68)) (defScope (topS 68)) .none kV dc pm an (.ref c) ct), sl⟩) (hc : PySem.W.codeIn K (.ref c) "_law_looks_at" = true) (hk : PySem.W.keepIn K (.ref f) = true) : ∃ fd, FunC K "_law_looks_at" "_law_looks_at" (topS 68) f fd (.ref c) :=
  ⟨_, ⟨oc, od, kV, dc, pm, an, ct, sl, rfl, lk, hc⟩, hk⟩
theorem kept_mk (X : K.In h) (G : h.Ns mainGlobals mg) {p : Addr} {od : Option Addr} {n : Nat} {sl : Array (Option Value)} {t1 t2 t3 : Tok} (hp : PySem.W.nsIn K mainGlobals "KEPT_WORDS" = some (some (.ref p)))
    (lk : K.lookup p = some ⟨.type "tuple", od, .seq #[.str "out" t1, .str "start" t2, .str "other" t3] n, sl⟩) : ∃ p, mg "KEPT_WORDS" = some (.ref p) ∧ ∀ H, SqT K H p ((["out", "start", "other"] : List Str).map V.str) :=
  ⟨p, PySem.W.mg_of X G hp, fun H => .inr ⟨_, _, _, lk, rfl, rfl, by show 3 ≤ sizeLine; decide, .cons ⟨_, rfl⟩ (.cons ⟨_, rfl⟩ (.cons ⟨_, rfl⟩ .nil))⟩⟩
theorem ints_mk (X : K.In h) (G : h.Ns mainGlobals mg) {t1 t2 t3 t4 : Tok} (h1 : PySem.W.nsIn K mainGlobals "MOST_LENGTH" = some (some (.int 8 t1))) (h2 : PySem.W.nsIn K mainGlobals "MOST_SIZE" = some (some (.int 3 t2))) (h3 : PySem.W.nsIn K mainGlobals "MOST_INPUTS" = some (some (.int 3 t3))) (h4 : PySem.W.nsIn K mainGlobals "MOST_SLIP" = some (some (.int 2 t4))) :
    ∀ p, p ∈ ([("MOST_LENGTH", 8), ("MOST_SIZE", 3), ("MOST_INPUTS", 3), ("MOST_SLIP", 2)] : List (Str × Int)) → ∃ t, mg p.1 = some (.int p.2 t) := fun p hp => by
  rcases List.mem_cons.mp hp with e | hp
  · rw [e]
    exact ⟨_, PySem.W.mg_of X G h1⟩
  rcases List.mem_cons.mp hp with e | hp
  · rw [e]
    exact ⟨_, PySem.W.mg_of X G h2⟩
  rcases List.mem_cons.mp hp with e | hp
  · rw [e]
    exact ⟨_, PySem.W.mg_of X G h3⟩
  rcases List.mem_cons.mp hp with e | hp
  · rw [e]
    exact ⟨_, PySem.W.mg_of X G h4⟩
  cases hp
def AllN (K : PySem.W.Frag) (C : Addr) : List Str → Prop
  | [] => True
  | x :: r => PySem.W.findIn K (.ref C) x = some none ∧ AllN K C r
theorem allN_of {C : Addr} : ∀ {l : List Str}, AllN K C l → ∀ x, x ∈ l → NoAttr K C x
  | [], _, x, hx => by cases hx
  | y :: r, a, x, hx => by
    rcases List.mem_cons.mp hx with e | e
    · rw [e]
      exact a.1
    · exact allN_of a.2 x e
theorem ownC_mk {C : Addr} (pg : PySem.W.plainGet K C Str.empty = true) (hd : PySem.W.hasDictIn K C = true) (po : PySem.W.plainOver K C = true) (sa : PySem.W.findIn K (.ref C) "__setattr__" = some (some (.builtin "object.__setattr__"))) (ha : PySem.W.findIn K (.ref C) "__class__" = some (some (.builtin "object.__class__")))
    (hn : PySem.W.specialIn K (.builtin "object.__class__") "__get__" = some (some (.builtin "getset_descriptor.__get__"))) (htk : PySem.W.takesIn K (.builtin "object.__class__") = some true) (hm : PySem.W.mroIn K C (.type "object") = some true) : OwnC K C := ⟨⟨pg, hd, po, sa⟩, ha, hn, htk, hm⟩
theorem fun_mk2 {x qual : Str} {st : Stmt} {f : Addr} {oc : Value} {od an : Option Addr} {sl : Array (Option Value)} {kV dc pm cd ct : Value} {Q : Addr → Prop}
    (lk : K.lookup f = some ⟨oc, od, .func (PySem.W.fnOf x qual (defArgs st) (defBody st) (defScope st) .none kV dc pm an cd ct), sl⟩) (hc : PySem.W.codeIn K cd qual = true) (hk : PySem.W.keepIn K (.ref f) = true) (q : Q f) : ∃ f fd, Fun K x qual st f fd ∧ Q f := ⟨f, _, fun_mk lk hc hk, q⟩
/-- all that is asked of the top -/
structure Left (q : Program) (K : PySem.W.Frag) (mg : Str → Option Value) (cP cT f c pT : Addr) : Prop where
  ev : Ev K mg cP cT
  lk : ∃ fd, FunC K "_law_looks_at" "_law_looks_at" (topS 68) f fd (.ref c)
  at_ : mg "_law_looks_at" = some (.ref f)
  tb : PySem.W.tabIn K "_law_looks_at" = some (c, pT)
  nt : K.lookup pT = none
  row : ((PyProof.Rows.recsOf q).find? (fun e => e.name == ("_law_looks_at" : Str))).isSome = true
theorem allT_cons {x : Str} {i : Nat} {r : List (Str × Nat)} (a : TopF K mg x i) (b : AllT K mg r) : AllT K mg (tn x i :: r) := ⟨a, b⟩
theorem allB_cons {x : Str} {r : List Str} (a : PySem.W.nsIn K mainGlobals x = some none) (b : AllB K r) : AllB K (x :: r) := ⟨a, b⟩
theorem allN_cons {C : Addr} {x : Str} {r : List Str} (a : PySem.W.findIn K (.ref C) x = some none) (b : AllN K C r) : AllN K C (x :: r) := ⟨a, b⟩
/-- all, from the facts one by one -/
theorem left_mk {q : Program} (X : K.In h) (G : h.Ns mainGlobals mg) {cP cT f c pT fp ft fa p : Addr} {oc1 kV1 dc1 pm1 ct1 oc2 kV2 dc2 pm2 cd2 ct2 oc3 kV3 dc3 pm3 cd3 ct3 oc4 kV4 dc4 pm4 cd4 ct4 oc5 : Value} {od1 an1 od2 an2 od3 an3 od4 an4 od5 od6 : Option Addr} {sl1 sl2 sl3 sl4 sl5 sl6 : Array (Option Value)} {t1 t2 t3 t4 t5 t6 t7 t8 : Tok} {vs : Array Value} {n6 : Nat}
    (mP : PySem.W.nsIn K mainGlobals "Panel" = some (some (.ref cP))) (mT : PySem.W.nsIn K mainGlobals "Table" = some (some (.ref cT))) (mL : PySem.W.nsIn K mainGlobals "_law_looks_at" = some (some (.ref f)))
    (lL : K.lookup f = some ⟨oc1, od1, .func (PySem.W.fnOf "_law_looks_at" "_law_looks_at" (defArgs (topS 68)) (defBody (topS 68)) (defScope (topS 68)) .none kV1 dc1 pm1 an1 (.ref c) ct1), sl1⟩) (cL : PySem.W.codeIn K (.ref c) "_law_looks_at" = true) (kL : PySem.W.keepIn K (.ref f) = true)
    (lc : K.lookup c = some ⟨oc5, od5, .fields vs, sl5⟩) (h11 : vs[11]? = some (.ref pT)) (nt : K.lookup pT = none) (row : ((PyProof.Rows.recsOf q).find? (fun e => e.name == ("_law_looks_at" : Str))).isSome = true)
    (iP : PySem.W.findIn K (.ref cP) "__init__" = some (some (.ref fp))) (lP : K.lookup fp = some ⟨oc2, od2, .func (PySem.W.fnOf "__init__" "Panel.__init__" (defArgs (methS 32 0)) (defBody (methS 32 0)) (defScope (methS 32 0)) .none kV2 dc2 pm2 an2 cd2 ct2), sl2⟩) (gP : PySem.W.codeIn K cd2 "Panel.__init__" = true) (kP : PySem.W.keepIn K (.ref fp) = true) (fP : PySem.W.isFn K (.ref fp) = true) (wP : PySem.W.makesIn K cP = true) (uP : PySem.W.keepIn K (.ref cP) = true)
    (iT : PySem.W.findIn K (.ref cT) "__init__" = some (some (.ref ft))) (lT : K.lookup ft = some ⟨oc3, od3, .func (PySem.W.fnOf "__init__" "Table.__init__" (defArgs (methS 37 0)) (defBody (methS 37 0)) (defScope (methS 37 0)) .none kV3 dc3 pm3 an3 cd3 ct3), sl3⟩) (gT : PySem.W.codeIn K cd3 "Table.__init__" = true) (kT : PySem.W.keepIn K (.ref ft) = true) (fT : PySem.W.isFn K (.ref ft) = true) (wT : PySem.W.makesIn K cT = true) (uT : PySem.W.keepIn K (.ref cT) = true)
    (iA : PySem.W.findIn K (.ref cT) "answers" = some (some (.ref fa))) (lA : K.lookup fa = some ⟨oc4, od4, .func (PySem.W.fnOf "answers" "Table.answers" (defArgs (methS 37 1)) (defBody (methS 37 1)) (defScope (methS 37 1)) .none kV4 dc4 pm4 an4 cd4 ct4), sl4⟩) (gA : PySem.W.codeIn K cd4 "Table.answers" = true) (kA : PySem.W.keepIn K (.ref fa) = true) (fA : PySem.W.isFn K (.ref fa) = true)
    (i1 : PySem.W.nsIn K mainGlobals "MOST_LENGTH" = some (some (.int 8 t1))) (i2 : PySem.W.nsIn K mainGlobals "MOST_SIZE" = some (some (.int 3 t2))) (i3 : PySem.W.nsIn K mainGlobals "MOST_INPUTS" = some (some (.int 3 t3))) (i4 : PySem.W.nsIn K mainGlobals "MOST_SLIP" = some (some (.int 2 t4))) (le : PySem.W.nsIn K mainGlobals "LETTERS" = some (some (.str "abcdefghijklmnopqrstuvwxyz" t5)))
    (kw : PySem.W.nsIn K mainGlobals "KEPT_WORDS" = some (some (.ref p))) (lw : K.lookup p = some ⟨.type "tuple", od6, .seq #[.str "out" t6, .str "start" t7, .str "other" t8] n6, sl6⟩)
    (oP : OwnC K cP) (oT : OwnC K cT) (nP : AllN K cP ["inputs", "length", "delays", "slip", "own_pairs"]) (nT : AllN K cT ["size", "length", "own_answers"]) (ab : AllB K bNames) (at_ : AllT K mg tNames) : ∃ cP cT f c pT, Left q K mg cP cT f c pT := by
  have tb : PySem.W.tabIn K "_law_looks_at" = some (c, pT) := by
    have e1 : (PySem.W.fnOf "_law_looks_at" "_law_looks_at" (defArgs (topS 68)) (defBody (topS 68)) (defScope (topS 68)) .none kV1 dc1 pm1 an1 (.ref c) ct1).code = .ref c := rfl
    unfold PySem.W.tabIn
    simp only [mL, lL, e1, lc, h11]
  exact ⟨cP, cT, f, c, pT, ⟨allB_of X G ab, allT_of at_, ints_mk X G i1 i2 i3 i4, ⟨_, PySem.W.mg_of X G le⟩, PySem.W.mg_of X G mP, PySem.W.mg_of X G mT, oP, oT, allN_of nP, allN_of nT, ⟨fp, _, fun_mk lP gP kP, ⟨wP, iP, fP, uP⟩⟩, ⟨ft, _, fun_mk lT gT kT, ⟨wT, iT, fT, uT⟩⟩, ⟨fa, _, fun_mk lA gA kA, ⟨iA, fA, kA⟩⟩, kept_mk X G kw lw⟩, looks_mk (pT := pT) lL cL kL, PySem.W.mg_of X G mL, tb, nt, row⟩
end
theorem walk20 {l : PySem.W.OpenLaw} {q : Program} {loose : List Str} {XP : (Str → Option Value) → Heap → Prop} {YP : World → Heap → Prop} {d : DefRec} {K : Params → PySem.W.Frag} (hn : l.most = some 63) (hdf : d.params.defaults = []) (hdn : d.name = "law") (hY : ∀ (w : World) (h : Heap), YP w h → (K w.params).In h)
    (F : ∀ (w : World) (mg : Str → Option Value) (h : Heap), (K w.params).In h → h.Ns mainGlobals mg → ∃ cP cT f c pT, Left q (K w.params) mg cP cT f c pT) :
    PySem.W.WalkO q loose XP YP l.row.toRowW d [] (fun f vs => PySem.call f vs) := by
  refine Att.attach_callB hn hdf fun w s0 s mg mb fa ob pm cd dc a us ns Gd Yd h1 h2 h3 h4 h5 h6 h7 h8 h9 => ?_
  have X := hY w _ Yd
  obtain ⟨cP, cT, f, c, pT, L⟩ := F w mg _ X Gd.T.g
  obtain ⟨V, ⟨fdl, FL⟩, mL, tb, nt, hdr0⟩ := L
  obtain ⟨dr, hdr⟩ := Option.isSome_iff_exists.mp hdr0
  obtain ⟨hd, ht⟩ := PySem.W.tab_of Gd.T X hdr tb
  obtain ⟨fl, fd, F0, m0⟩ := V.t (tn "law" 74) (by decide +kernel)
  rw [hdn] at h4
  have e := h4.symm.trans m0
  cases e
  have O : Outset (K w.params) mg mb s a c pT us ns := ⟨X, Gd.T.g, Gd.T.b, Gd.T.builtins, Gd.T.nolimit, h9, ht, nt, hd, Gd.T.bmain, h5, h6, h7⟩
  have b0 := F0.binds (ps := ["_law_script"]) fun _ _ _ _ _ _ us hl => match us, hl with | [_], _ => rfl
  exact law_end O ⟨rfl, by decide, by decide⟩ (fun base TB => run_law V (defs_ok V FL mL TB) facts1 facts2 F0) (b0 s [.ref a] X rfl)
end Sk
open PySem PySem.W PyProof.Rows
set_option maxRecDepth 100000 in
set_option maxHeartbeats 0 in
theorem PySem.Challenge.cw_roundpromises_k20_whole_every_table_serv_holds : PySem.Challenge.rw_roundpromises_k20_whole_every_table_serv.Holds := by
  w_on; o_law; k_head; (case hw => w_witness2)
  k_fill
  refine Sk.walk20 (l := PySem.Challenge.rw_roundpromises_k20_whole_every_table_serv) rfl rfl rfl (fun w h Y => PySem.W.km_in_of Y) ?F
  case F =>
    intro w mg h KX G
    refine' Sk.left_mk KX G ?zzmP ?zzmT ?zzmL ?zzlL ?zzcL ?zzkL ?zzlc ?zzh11 ?zznt ?zzrow ?zziP ?zzlP ?zzgP ?zzkP ?zzfP ?zzwP ?zzuP ?zziT ?zzlT ?zzgT ?zzkT ?zzfT ?zzwT ?zzuT ?zziA ?zzlA ?zzgA ?zzkA ?zzfA ?zzi1 ?zzi2 ?zzi3 ?zzi4 ?zzle ?zzkw ?zzlw ?zzoP ?zzoT ?zznP ?zznT ?zzab ?zzat_
    (case zzmP => k_is)
    (case zzmT => k_is)
    (case zzmL => k_is)
    (case zzlL => k_is)
    (case zzcL => k_is)
    (case zzkL => k_is)
    (case zzlc => k_is)
    (case zzh11 => first | exact rfl | kernel_rfl)
    (case zznt => first | kernel_rfl | exact rfl)
    (case zzrow => first | kernel_rfl | decide +kernel)
    (case zziP => k_is)
    (case zzlP => k_is)
    (case zzgP => k_is)
    (case zzkP => k_is)
    (case zzfP => k_is)
    (case zzwP => k_is)
    (case zzuP => k_is)
    (case zziT => k_is)
    (case zzlT => k_is)
    (case zzgT => k_is)
    (case zzkT => k_is)
    (case zzfT => k_is)
    (case zzwT => k_is)
    (case zzuT => k_is)
    (case zziA => k_is)
    (case zzlA => k_is)
    (case zzgA => k_is)
    (case zzkA => k_is)
    (case zzfA => k_is)
    (case zzi1 => k_is)
    (case zzi2 => k_is)
    (case zzi3 => k_is)
    (case zzi4 => k_is)
    (case zzle => k_is)
    (case zzkw => k_is)
    (case zzlw => k_is)
    (case zzoP => refine' Sk.ownC_mk ?zzy1 ?zzy2 ?zzy3 ?zzy4 ?zzy5 ?zzy6 ?zzy7 ?zzy8; (case zzy1 => k_is); (case zzy2 => k_is); (case zzy3 => k_is); (case zzy4 => k_is); (case zzy5 => k_is); (case zzy6 => k_is); (case zzy7 => k_is); (case zzy8 => k_is))
    (case zzoT => refine' Sk.ownC_mk ?zzy9 ?zzy10 ?zzy11 ?zzy12 ?zzy13 ?zzy14 ?zzy15 ?zzy16; (case zzy9 => k_is); (case zzy10 => k_is); (case zzy11 => k_is); (case zzy12 => k_is); (case zzy13 => k_is); (case zzy14 => k_is); (case zzy15 => k_is); (case zzy16 => k_is))
    case zznP =>
      refine' Sk.allN_cons ?zzy17 ?_; (case zzy17 => k_is)
      refine' Sk.allN_cons ?zzy18 ?_; (case zzy18 => k_is)
      refine' Sk.allN_cons ?zzy19 ?_; (case zzy19 => k_is)
      refine' Sk.allN_cons ?zzy20 ?_; (case zzy20 => k_is)
      refine' Sk.allN_cons ?zzy21 ?_; (case zzy21 => k_is)
      exact trivial
    case zznT =>
      refine' Sk.allN_cons ?zzy22 ?_; (case zzy22 => k_is)
      refine' Sk.allN_cons ?zzy23 ?_; (case zzy23 => k_is)
      refine' Sk.allN_cons ?zzy24 ?_; (case zzy24 => k_is)
      exact trivial
    case zzab =>
      refine' Sk.allB_cons ?zzy25 ?_; (case zzy25 => k_is)
      refine' Sk.allB_cons ?zzy26 ?_; (case zzy26 => k_is)
      refine' Sk.allB_cons ?zzy27 ?_; (case zzy27 => k_is)
      refine' Sk.allB_cons ?zzy28 ?_; (case zzy28 => k_is)
      refine' Sk.allB_cons ?zzy29 ?_; (case zzy29 => k_is)
      refine' Sk.allB_cons ?zzy30 ?_; (case zzy30 => k_is)
      refine' Sk.allB_cons ?zzy31 ?_; (case zzy31 => k_is)
      refine' Sk.allB_cons ?zzy32 ?_; (case zzy32 => k_is)
      refine' Sk.allB_cons ?zzy33 ?_; (case zzy33 => k_is)
      refine' Sk.allB_cons ?zzy34 ?_; (case zzy34 => k_is)
      refine' Sk.allB_cons ?zzy35 ?_; (case zzy35 => k_is)
      refine' Sk.allB_cons ?zzy36 ?_; (case zzy36 => k_is)
      refine' Sk.allB_cons ?zzy37 ?_; (case zzy37 => k_is)
      refine' Sk.allB_cons ?zzy38 ?_; (case zzy38 => k_is)
      refine' Sk.allB_cons ?zzy39 ?_; (case zzy39 => k_is)
      refine' Sk.allB_cons ?zzy40 ?_; (case zzy40 => k_is)
      refine' Sk.allB_cons ?zzy41 ?_; (case zzy41 => k_is)
      refine' Sk.allB_cons ?zzy42 ?_; (case zzy42 => k_is)
      exact trivial
    case zzat_ =>
      refine' Sk.allT_cons (Sk.topF_mk (x := "is_number") (i := 13) KX G ?zzy43 ?zzy44 ?zzy45 ?zzy46) ?_; (case zzy43 => k_is); (case zzy44 => k_is); (case zzy45 => k_is); (case zzy46 => k_is)
      refine' Sk.allT_cons (Sk.topF_mk (x := "is_list") (i := 14) KX G ?zzy47 ?zzy48 ?zzy49 ?zzy50) ?_; (case zzy47 => k_is); (case zzy48 => k_is); (case zzy49 => k_is); (case zzy50 => k_is)
      refine' Sk.allT_cons (Sk.topF_mk (x := "is_between") (i := 15) KX G ?zzy51 ?zzy52 ?zzy53 ?zzy54) ?_; (case zzy51 => k_is); (case zzy52 => k_is); (case zzy53 => k_is); (case zzy54 => k_is)
      refine' Sk.allT_cons (Sk.topF_mk (x := "is_length") (i := 16) KX G ?zzy55 ?zzy56 ?zzy57 ?zzy58) ?_; (case zzy55 => k_is); (case zzy56 => k_is); (case zzy57 => k_is); (case zzy58 => k_is)
      refine' Sk.allT_cons (Sk.topF_mk (x := "is_time") (i := 17) KX G ?zzy59 ?zzy60 ?zzy61 ?zzy62) ?_; (case zzy59 => k_is); (case zzy60 => k_is); (case zzy61 => k_is); (case zzy62 => k_is)
      refine' Sk.allT_cons (Sk.topF_mk (x := "times_of") (i := 18) KX G ?zzy63 ?zzy64 ?zzy65 ?zzy66) ?_; (case zzy63 => k_is); (case zzy64 => k_is); (case zzy65 => k_is); (case zzy66 => k_is)
      refine' Sk.allT_cons (Sk.topF_mk (x := "is_row_at") (i := 19) KX G ?zzy67 ?zzy68 ?zzy69 ?zzy70) ?_; (case zzy67 => k_is); (case zzy68 => k_is); (case zzy69 => k_is); (case zzy70 => k_is)
      refine' Sk.allT_cons (Sk.topF_mk (x := "all_rows") (i := 21) KX G ?zzy71 ?zzy72 ?zzy73 ?zzy74) ?_; (case zzy71 => k_is); (case zzy72 => k_is); (case zzy73 => k_is); (case zzy74 => k_is)
      refine' Sk.allT_cons (Sk.topF_mk (x := "seen_until") (i := 22) KX G ?zzy75 ?zzy76 ?zzy77 ?zzy78) ?_; (case zzy75 => k_is); (case zzy76 => k_is); (case zzy77 => k_is); (case zzy78 => k_is)
      refine' Sk.allT_cons (Sk.topF_mk (x := "is_name") (i := 26) KX G ?zzy79 ?zzy80 ?zzy81 ?zzy82) ?_; (case zzy79 => k_is); (case zzy80 => k_is); (case zzy81 => k_is); (case zzy82 => k_is)
      refine' Sk.allT_cons (Sk.topF_mk (x := "is_pair_of") (i := 30) KX G ?zzy83 ?zzy84 ?zzy85 ?zzy86) ?_; (case zzy83 => k_is); (case zzy84 => k_is); (case zzy85 => k_is); (case zzy86 => k_is)
      refine' Sk.allT_cons (Sk.topF_mk (x := "delays_from") (i := 31) KX G ?zzy87 ?zzy88 ?zzy89 ?zzy90) ?_; (case zzy87 => k_is); (case zzy88 => k_is); (case zzy89 => k_is); (case zzy90 => k_is)
      refine' Sk.allT_cons (Sk.topF_mk (x := "need_panel") (i := 33) KX G ?zzy91 ?zzy92 ?zzy93 ?zzy94) ?_; (case zzy91 => k_is); (case zzy92 => k_is); (case zzy93 => k_is); (case zzy94 => k_is)
      refine' Sk.allT_cons (Sk.topF_mk (x := "are_answers") (i := 35) KX G ?zzy95 ?zzy96 ?zzy97 ?zzy98) ?_; (case zzy95 => k_is); (case zzy96 => k_is); (case zzy97 => k_is); (case zzy98 => k_is)
      refine' Sk.allT_cons (Sk.topF_mk (x := "is_steady") (i := 36) KX G ?zzy99 ?zzy100 ?zzy101 ?zzy102) ?_; (case zzy99 => k_is); (case zzy100 => k_is); (case zzy101 => k_is); (case zzy102 => k_is)
      refine' Sk.allT_cons (Sk.topF_mk (x := "table_from") (i := 38) KX G ?zzy103 ?zzy104 ?zzy105 ?zzy106) ?_; (case zzy103 => k_is); (case zzy104 => k_is); (case zzy105 => k_is); (case zzy106 => k_is)
      refine' Sk.allT_cons (Sk.topF_mk (x := "need_table") (i := 39) KX G ?zzy107 ?zzy108 ?zzy109 ?zzy110) ?_; (case zzy107 => k_is); (case zzy108 => k_is); (case zzy109 => k_is); (case zzy110 => k_is)
      refine' Sk.allT_cons (Sk.topF_mk (x := "need_fitting") (i := 40) KX G ?zzy111 ?zzy112 ?zzy113 ?zzy114) ?_; (case zzy111 => k_is); (case zzy112 => k_is); (case zzy113 => k_is); (case zzy114 => k_is)
      refine' Sk.allT_cons (Sk.topF_mk (x := "need_panels") (i := 42) KX G ?zzy115 ?zzy116 ?zzy117 ?zzy118) ?_; (case zzy115 => k_is); (case zzy116 => k_is); (case zzy117 => k_is); (case zzy118 => k_is)
      refine' Sk.allT_cons (Sk.topF_mk (x := "heard_from") (i := 43) KX G ?zzy119 ?zzy120 ?zzy121 ?zzy122) ?_; (case zzy119 => k_is); (case zzy120 => k_is); (case zzy121 => k_is); (case zzy122 => k_is)
      refine' Sk.allT_cons (Sk.topF_mk (x := "sources_by") (i := 44) KX G ?zzy123 ?zzy124 ?zzy125 ?zzy126) ?_; (case zzy123 => k_is); (case zzy124 => k_is); (case zzy125 => k_is); (case zzy126 => k_is)
      refine' Sk.allT_cons (Sk.topF_mk (x := "is_read") (i := 45) KX G ?zzy127 ?zzy128 ?zzy129 ?zzy130) ?_; (case zzy127 => k_is); (case zzy128 => k_is); (case zzy129 => k_is); (case zzy130 => k_is)
      refine' Sk.allT_cons (Sk.topF_mk (x := "readings") (i := 46) KX G ?zzy131 ?zzy132 ?zzy133 ?zzy134) ?_; (case zzy131 => k_is); (case zzy132 => k_is); (case zzy133 => k_is); (case zzy134 => k_is)
      refine' Sk.allT_cons (Sk.topF_mk (x := "reader_of") (i := 47) KX G ?zzy135 ?zzy136 ?zzy137 ?zzy138) ?_; (case zzy135 => k_is); (case zzy136 => k_is); (case zzy137 => k_is); (case zzy138 => k_is)
      refine' Sk.allT_cons (Sk.topF_mk (x := "translator_of") (i := 48) KX G ?zzy139 ?zzy140 ?zzy141 ?zzy142) ?_; (case zzy139 => k_is); (case zzy140 => k_is); (case zzy141 => k_is); (case zzy142 => k_is)
      refine' Sk.allT_cons (Sk.topF_mk (x := "serves") (i := 49) KX G ?zzy143 ?zzy144 ?zzy145 ?zzy146) ?_; (case zzy143 => k_is); (case zzy144 => k_is); (case zzy145 => k_is); (case zzy146 => k_is)
      refine' Sk.allT_cons (Sk.topF_mk (x := "translator") (i := 50) KX G ?zzy147 ?zzy148 ?zzy149 ?zzy150) ?_; (case zzy147 => k_is); (case zzy148 => k_is); (case zzy149 => k_is); (case zzy150 => k_is)
      refine' Sk.allT_cons (Sk.topF_mk (x := "is_reader") (i := 51) KX G ?zzy151 ?zzy152 ?zzy153 ?zzy154) ?_; (case zzy151 => k_is); (case zzy152 => k_is); (case zzy153 => k_is); (case zzy154 => k_is)
      refine' Sk.allT_cons (Sk.topF_mk (x := "is_translator_of") (i := 52) KX G ?zzy155 ?zzy156 ?zzy157 ?zzy158) ?_; (case zzy155 => k_is); (case zzy156 => k_is); (case zzy157 => k_is); (case zzy158 => k_is)
      refine' Sk.allT_cons (Sk.topF_mk (x := "translated") (i := 53) KX G ?zzy159 ?zzy160 ?zzy161 ?zzy162) ?_; (case zzy159 => k_is); (case zzy160 => k_is); (case zzy161 => k_is); (case zzy162 => k_is)
      refine' Sk.allT_cons (Sk.topF_mk (x := "_law_begun") (i := 55) KX G ?zzy163 ?zzy164 ?zzy165 ?zzy166) ?_; (case zzy163 => k_is); (case zzy164 => k_is); (case zzy165 => k_is); (case zzy166 => k_is)
      refine' Sk.allT_cons (Sk.topF_mk (x := "_law_draw") (i := 56) KX G ?zzy167 ?zzy168 ?zzy169 ?zzy170) ?_; (case zzy167 => k_is); (case zzy168 => k_is); (case zzy169 => k_is); (case zzy170 => k_is)
      refine' Sk.allT_cons (Sk.topF_mk (x := "_law_pick") (i := 57) KX G ?zzy171 ?zzy172 ?zzy173 ?zzy174) ?_; (case zzy171 => k_is); (case zzy172 => k_is); (case zzy173 => k_is); (case zzy174 => k_is)
      refine' Sk.allT_cons (Sk.topF_mk (x := "_law_word") (i := 58) KX G ?zzy175 ?zzy176 ?zzy177 ?zzy178) ?_; (case zzy175 => k_is); (case zzy176 => k_is); (case zzy177 => k_is); (case zzy178 => k_is)
      refine' Sk.allT_cons (Sk.topF_mk (x := "_law_words") (i := 59) KX G ?zzy179 ?zzy180 ?zzy181 ?zzy182) ?_; (case zzy179 => k_is); (case zzy180 => k_is); (case zzy181 => k_is); (case zzy182 => k_is)
      refine' Sk.allT_cons (Sk.topF_mk (x := "_law_ticks") (i := 60) KX G ?zzy183 ?zzy184 ?zzy185 ?zzy186) ?_; (case zzy183 => k_is); (case zzy184 => k_is); (case zzy185 => k_is); (case zzy186 => k_is)
      refine' Sk.allT_cons (Sk.topF_mk (x := "_law_spots") (i := 61) KX G ?zzy187 ?zzy188 ?zzy189 ?zzy190) ?_; (case zzy187 => k_is); (case zzy188 => k_is); (case zzy189 => k_is); (case zzy190 => k_is)
      refine' Sk.allT_cons (Sk.topF_mk (x := "_law_place") (i := 62) KX G ?zzy191 ?zzy192 ?zzy193 ?zzy194) ?_; (case zzy191 => k_is); (case zzy192 => k_is); (case zzy193 => k_is); (case zzy194 => k_is)
      refine' Sk.allT_cons (Sk.topF_mk (x := "_law_seen") (i := 63) KX G ?zzy195 ?zzy196 ?zzy197 ?zzy198) ?_; (case zzy195 => k_is); (case zzy196 => k_is); (case zzy197 => k_is); (case zzy198 => k_is)
      refine' Sk.allT_cons (Sk.topF_mk (x := "_law_world") (i := 64) KX G ?zzy199 ?zzy200 ?zzy201 ?zzy202) ?_; (case zzy199 => k_is); (case zzy200 => k_is); (case zzy201 => k_is); (case zzy202 => k_is)
      refine' Sk.allT_cons (Sk.topF_mk (x := "_law_board") (i := 65) KX G ?zzy203 ?zzy204 ?zzy205 ?zzy206) ?_; (case zzy203 => k_is); (case zzy204 => k_is); (case zzy205 => k_is); (case zzy206 => k_is)
      refine' Sk.allT_cons (Sk.topF_mk (x := "_law_hear") (i := 66) KX G ?zzy207 ?zzy208 ?zzy209 ?zzy210) ?_; (case zzy207 => k_is); (case zzy208 => k_is); (case zzy209 => k_is); (case zzy210 => k_is)
      refine' Sk.allT_cons (Sk.topF_mk (x := "_law_two_worlds") (i := 67) KX G ?zzy211 ?zzy212 ?zzy213 ?zzy214) ?_; (case zzy211 => k_is); (case zzy212 => k_is); (case zzy213 => k_is); (case zzy214 => k_is)
      refine' Sk.allT_cons (Sk.topF_mk (x := "_law_looks_at") (i := 68) KX G ?zzy215 ?zzy216 ?zzy217 ?zzy218) ?_; (case zzy215 => k_is); (case zzy216 => k_is); (case zzy217 => k_is); (case zzy218 => k_is)
      refine' Sk.allT_cons (Sk.topF_mk (x := "_law_played") (i := 69) KX G ?zzy219 ?zzy220 ?zzy221 ?zzy222) ?_; (case zzy219 => k_is); (case zzy220 => k_is); (case zzy221 => k_is); (case zzy222 => k_is)
      refine' Sk.allT_cons (Sk.topF_mk (x := "_law_rings") (i := 70) KX G ?zzy223 ?zzy224 ?zzy225 ?zzy226) ?_; (case zzy223 => k_is); (case zzy224 => k_is); (case zzy225 => k_is); (case zzy226 => k_is)
      refine' Sk.allT_cons (Sk.topF_mk (x := "_law_is_within") (i := 71) KX G ?zzy227 ?zzy228 ?zzy229 ?zzy230) ?_; (case zzy227 => k_is); (case zzy228 => k_is); (case zzy229 => k_is); (case zzy230 => k_is)
      refine' Sk.allT_cons (Sk.topF_mk (x := "_law_is_one_within") (i := 72) KX G ?zzy231 ?zzy232 ?zzy233 ?zzy234) ?_; (case zzy231 => k_is); (case zzy232 => k_is); (case zzy233 => k_is); (case zzy234 => k_is)
      refine' Sk.allT_cons (Sk.topF_mk (x := "_law_all_served") (i := 73) KX G ?zzy235 ?zzy236 ?zzy237 ?zzy238) ?_; (case zzy235 => k_is); (case zzy236 => k_is); (case zzy237 => k_is); (case zzy238 => k_is)
      refine' Sk.allT_cons (Sk.topF_mk (x := "law") (i := 74) KX G ?zzy239 ?zzy240 ?zzy241 ?zzy242) ?_; (case zzy239 => k_is); (case zzy240 => k_is); (case zzy241 => k_is); (case zzy242 => k_is)
      exact trivial

