import PyProof.Rows.All
import Wide.All
import OpenK.AllK
import Wide.FinOn
import HandS.ForMost
import HandS.Exc
import HandS.WordsExc
import HandS.TryMany
import HandS.TryOnly
import HandS.TupAny
import HandS.Wide
import HandS.IsInst
import HandS.Style
import HandS.TupMul
import HandS.Deep
import HandS.Comp
import HandS.Flow
import PyProof.EnumMake
import PyProof.EnumIter
import HandS.Zip
import HandS.SortInts
import HandS.ExcOwn
import KE.KExcSuper
import HandS.ExcInit
import HandS.ExcField
import PyProof.ReprRoads
import HandS.Conv
import PySem.Challenge.RW_oddsrooms_k44_whole_chances_behind_steps
set_option Elab.async false
set_option linter.all false
set_option maxRecDepth 100000
set_option maxHeartbeats 4000000
namespace Dt
open PySem PySem.Spec PyProof.Rows L2
abbrev Frag := PySem.W.Frag

/-! ### 1. data -/
inductive D where
  | non
  | bl (b : Bool)
  | int (i : Int)
  | str (x : Str)
  | tup (xs : List D)
  | lst (xs : List D)
  | dic
  | fn (x : Str)
deriving Inhabited

/-- a tuple of the written part -/
def KT (K : Frag) (a : Addr) (xs : List V) : Prop :=
  ∃ (o : Obj) (its : Array Value) (n : Nat), K.lookup a = some o ∧ o.cls = .type "tuple" ∧ o.data = .seq its n ∧ its.size ≤ sizeLine ∧ Vals xs its.toList
/-- a tuple, frozen -/
def TupAt (K : Frag) (H : Hp) (Z : Addr → Prop) (a : Addr) (vs : List V) : Prop := (Z a ∧ H a = some (.tup vs)) ∨ KT K a vs
/-- a list, frozen -/
def LstAt (H : Hp) (Z : Addr → Prop) (a : Addr) (vs : List V) : Prop := Z a ∧ H a = some (.lst vs)
section
variable (K : Frag) (mg : Str → Option Value) (H : Hp) (Z : Addr → Prop)
mutual
/-- the value v is the datum -/
def Rp : D → V → Prop
  | .non, v => v = .non
  | .bl b, v => v = .bl b
  | .int i, v => v = .int i
  | .str x, v => v = .str x
  | .tup ds, v => ∃ a vs, v = .ref a ∧ TupAt K H Z a vs ∧ RpL ds vs ∧ ds.length ≤ sizeLine
  | .lst ds, v => ∃ a vs, v = .ref a ∧ LstAt H Z a vs ∧ RpL ds vs ∧ ds.length ≤ sizeLine
  | .dic, v => ∃ a, v = .ref a ∧ Z a ∧ H a = some (.dK [])
  | .fn x, v => ∃ a, v = .ref a ∧ mg x = some (.ref a)
def RpL : List D → List V → Prop
  | [], vs => vs = []
  | d :: ds, vs => ∃ v vs', vs = v :: vs' ∧ Rp d v ∧ RpL ds vs'
end
end

/-- what becomes of heap, frozen ones Z, owned ones O -/
structure Ext (H : Hp) (Z O : Addr → Prop) (H' : Hp) (Z' O' : Addr → Prop) : Prop where
  keep : ∀ b o, H b = some o → ¬ O b → H' b = some o
  zz : ∀ a, Z a → Z' a
  oo : ∀ a, O' a → O a ∨ H a = none
  zo : ∀ a, Z' a → Z a ∨ O a ∨ H a = none
theorem Ext.refl (H : Hp) (Z O : Addr → Prop) : Ext H Z O H Z O := ⟨fun _ _ h _ => h, fun _ h => h, fun _ h => .inl h, fun _ h => .inl h⟩
theorem Ext.free {H H' : Hp} {Z O Z' O' : Addr → Prop} (e : Ext H Z O H' Z' O') {a : Addr} (h : H' a = none) : O a ∨ H a = none := by
  cases q : H a with
  | none => exact .inr rfl
  | some o =>
    by_cases z : O a
    · exact .inl z
    · rw [e.keep a o q z] at h
      cases h
theorem Ext.trans {H H1 H2 : Hp} {Z O Z1 O1 Z2 O2 : Addr → Prop} (a : Ext H Z O H1 Z1 O1) (b : Ext H1 Z1 O1 H2 Z2 O2) : Ext H Z O H2 Z2 O2 where
  keep := fun c o h n => b.keep c o (a.keep c o h n) fun q => (a.oo c q).elim n fun z => by rw [h] at z; cases z
  zz := fun c h => b.zz c (a.zz c h)
  oo := fun c h => (b.oo c h).elim (a.oo c) a.free
  zo := fun c h => (b.zo c h).elim (a.zo c) fun q => .inr (q.elim (a.oo c) a.free)

section
variable {K : Frag} {mg : Str → Option Value} {H H' : Hp} {Z Z' : Addr → Prop}
theorem TupAt.mono {a : Addr} {vs : List V} (h : TupAt K H Z a vs) (k : ∀ b o, H b = some o → Z b → H' b = some o) (z : ∀ b, Z b → Z' b) : TupAt K H' Z' a vs := by
  rcases h with ⟨h1, h2⟩ | h
  · exact .inl ⟨z _ h1, k _ _ h2 h1⟩
  · exact .inr h
mutual
theorem Rp.mono (k : ∀ b o, H b = some o → Z b → H' b = some o) (z : ∀ b, Z b → Z' b) : ∀ (d : D) (v : V), Rp K mg H Z d v → Rp K mg H' Z' d v
  | .non, _, h => h
  | .bl _, _, h => h
  | .int _, _, h => h
  | .str _, _, h => h
  | .tup ds, _, ⟨a, vs, e, t, r, n⟩ => ⟨a, vs, e, t.mono k z, RpL.mono k z ds vs r, n⟩
  | .lst ds, _, ⟨a, vs, e, t, r, n⟩ => ⟨a, vs, e, ⟨z _ t.1, k _ _ t.2 t.1⟩, RpL.mono k z ds vs r, n⟩
  | .dic, _, ⟨a, e, q, t⟩ => ⟨a, e, z _ q, k _ _ t q⟩
  | .fn _, _, h => h
theorem RpL.mono (k : ∀ b o, H b = some o → Z b → H' b = some o) (z : ∀ b, Z b → Z' b) : ∀ (ds : List D) (vs : List V), RpL K mg H Z ds vs → RpL K mg H' Z' ds vs
  | [], _, h => h
  | d :: ds, _, ⟨v, vs', e, h1, h2⟩ => ⟨v, vs', e, Rp.mono k z d v h1, RpL.mono k z ds vs' h2⟩
end
theorem RpL.length : ∀ {ds : List D} {vs : List V}, RpL K mg H Z ds vs → vs.length = ds.length
  | [], _, h => by cases h; rfl
  | _ :: _, _, ⟨_, _, e, _, r⟩ => by subst e; simp [RpL.length r]
theorem RpL.get : ∀ {ds : List D} {vs : List V} {i : Nat} {d : D}, RpL K mg H Z ds vs → ds[i]? = some d → ∃ v, vs[i]? = some v ∧ Rp K mg H Z d v
  | [], _, _, _, _, h => by simp at h
  | _ :: _, _, 0, _, ⟨v, _, e, h1, _⟩, h => by
    subst e
    simp at h
    subst h
    exact ⟨v, rfl, h1⟩
  | _ :: ds, _, i + 1, d, ⟨_, vs', e, _, r⟩, h => by
    subst e
    obtain ⟨u, h1, h2⟩ := RpL.get (i := i) (d := d) r (by simpa using h)
    exact ⟨u, by simpa using h1, h2⟩
theorem RpL.getV : ∀ {ds : List D} {vs : List V} {i : Nat} {v : V}, RpL K mg H Z ds vs → vs[i]? = some v → ∃ d, ds[i]? = some d ∧ Rp K mg H Z d v
  | [], _, _, _, e, h => by cases e; simp at h
  | d :: _, _, 0, _, ⟨v, _, e, h1, _⟩, h => by
    subst e
    simp at h
    subst h
    exact ⟨d, rfl, h1⟩
  | _ :: ds, _, i + 1, v, ⟨_, vs', e, _, r⟩, h => by
    subst e
    obtain ⟨u, h1, h2⟩ := RpL.getV (i := i) (v := v) r (by simpa using h)
    exact ⟨u, by simpa using h1, h2⟩
theorem RpL.app : ∀ {ds es : List D} {vs ws : List V}, RpL K mg H Z ds vs → RpL K mg H Z es ws → RpL K mg H Z (ds ++ es) (vs ++ ws)
  | [], _, _, _, h, g => by cases h; exact g
  | _ :: _, _, _, _, ⟨v, vs', e, h1, h2⟩, g => by subst e; exact ⟨v, _, rfl, h1, RpL.app h2 g⟩
theorem RpL.one {d : D} {v : V} (h : Rp K mg H Z d v) : RpL K mg H Z [d] [v] := ⟨v, [], rfl, h, rfl⟩
theorem RpL.take : ∀ {ds : List D} {vs : List V} (n : Nat), RpL K mg H Z ds vs → RpL K mg H Z (ds.take n) (vs.take n)
  | _, _, 0, _ => rfl
  | [], _, _ + 1, h => by cases h; rfl
  | _ :: _, _, n + 1, ⟨v, vs', e, h1, h2⟩ => by subst e; exact ⟨v, _, rfl, h1, RpL.take n h2⟩
theorem RpL.drop : ∀ {ds : List D} {vs : List V} (n : Nat), RpL K mg H Z ds vs → RpL K mg H Z (ds.drop n) (vs.drop n)
  | _, _, 0, h => h
  | [], _, _ + 1, h => by cases h; rfl
  | _ :: ds, _, n + 1, ⟨v, vs', e, h1, h2⟩ => by subst e; exact RpL.drop n h2
theorem RpL.set : ∀ {ds : List D} {vs : List V} {d : D} {v : V} (i : Nat), RpL K mg H Z ds vs → Rp K mg H Z d v → RpL K mg H Z (ds.set i d) (vs.set i v)
  | [], _, _, _, _, h, _ => by cases h; rfl
  | _ :: _, _, _, v, 0, ⟨_, _, e, _, h2⟩, g => by subst e; exact ⟨v, _, rfl, g, h2⟩
  | _ :: _, _, _, _, i + 1, ⟨v, _, e, h1, h2⟩, g => by subst e; exact ⟨v, _, rfl, h1, RpL.set i h2 g⟩
theorem RpL.erase : ∀ {ds : List D} {vs : List V} (i : Nat), RpL K mg H Z ds vs → RpL K mg H Z (ds.eraseIdx i) (vs.eraseIdx i)
  | [], _, _, h => by cases h; rfl
  | _ :: _, _, 0, ⟨_, _, e, _, h2⟩ => by subst e; exact h2
  | _ :: _, _, i + 1, ⟨v, _, e, h1, h2⟩ => by subst e; exact ⟨v, _, rfl, h1, RpL.erase i h2⟩
theorem RpL.ints : ∀ (ns : List Int), RpL K mg H Z (ns.map D.int) (ns.map V.int)
  | [] => rfl
  | n :: ns => ⟨.int n, _, rfl, rfl, RpL.ints ns⟩
theorem RpL.ints_eq : ∀ {ns : List Int} {vs : List V}, RpL K mg H Z (ns.map D.int) vs → vs = ns.map V.int
  | [], _, h => h
  | _ :: _, _, ⟨_, _, e, h1, h2⟩ => by subst e; cases (show _ = _ from h1); rw [RpL.ints_eq h2]; rfl
theorem RpL.bls_eq : ∀ {ns : List Bool} {vs : List V}, RpL K mg H Z (ns.map D.bl) vs → vs = ns.map V.bl
  | [], _, h => h
  | _ :: _, _, ⟨_, _, e, h1, h2⟩ => by subst e; cases (show _ = _ from h1); rw [RpL.bls_eq h2]; rfl
theorem TupAt.sq {a : Addr} {vs : List V} (h : TupAt K H Z a vs) : SqT K H a vs := h.elim (fun q => .inl (.inl q.2)) .inr
theorem LstAt.sq {a : Addr} {vs : List V} (h : LstAt H Z a vs) : SqL K H a vs := .inl (.inl h.2)
end

/-! ### 2. slots -/
inductive Sl where
  | no
  | dat (d : D)
  | ol (ds : List D)
  | om (dss : List (List D))
  | dr (p : Addr) (cells : List Int) (at_ : Int) (left : List Int)
  | exc (n : Nat) (d : D)
  | sc (ns : List Int)
deriving Inhabited
abbrev Ro := List Sl

/-- the classes of exceptions: their places, their fields -/
structure Tab where
  cls : Nat → Addr
  fld : Nat → Str
/-- the exception that a suite holds: the object, its class, its dict -/
abbrev Xi := Option (Addr × Value × Option Addr)

section
variable (K : Frag) (mg : Str → Option Value) (T : Tab) (ξ : Xi) (H : Hp) (Z : Addr → Prop)
/-- rows that are owned -/
def RpM : List (List D) → List Addr → Prop
  | [], qs => qs = []
  | ds :: dss, qs => ∃ q qs' vs, qs = q :: qs' ∧ H q = some (.lst vs) ∧ RpL K mg H Z ds vs ∧ ds.length ≤ sizeLine ∧ RpM dss qs'
def drKv (c : Addr) (at_ : Int) (l : Addr) : List (Key × V) := [(.inr "cells", .ref c), (.inr "at", .int at_), (.inr "left", .ref l)]
/-- the slot holds; P: what it owns -/
def RpS : Sl → Option V → (Addr → Prop) → Prop
  | .no, _, P => ∀ a, ¬ P a
  | .dat d, o, P => (∃ v, o = some v ∧ Rp K mg H Z d v) ∧ ∀ a, ¬ P a
  | .ol ds, o, P => ∃ p vs, o = some (.ref p) ∧ H p = some (.lst vs) ∧ RpL K mg H Z ds vs ∧ ds.length ≤ sizeLine ∧ ∀ a, P a ↔ a = p
  | .om dss, o, P => ∃ p qs, o = some (.ref p) ∧ H p = some (.lst (qs.map V.ref)) ∧ qs.Nodup ∧ p ∉ qs ∧ RpM K mg H Z dss qs ∧ dss.length ≤ sizeLine ∧ ∀ a, P a ↔ a = p ∨ a ∈ qs
  | .dr p cells at_ left, o, P => o = some (.ref p) ∧ ∃ c l, H p = some (.dK (drKv c at_ l)) ∧ H c = some (.lst (cells.map V.int)) ∧ H l = some (.lst (left.map V.int)) ∧ c ≠ l ∧ ∀ a, P a ↔ a = p ∨ a = c ∨ a = l
  | .sc ns, o, P => (∃ a, o = some (.ref a) ∧ ((∃ ob, H a = some (.frz ob (.lst (ns.map V.int)))) ∨ ∀ H', SqL K H' a (ns.map V.int))) ∧ ∀ a, ¬ P a
  | .exc n d, o, P => (∃ a v da, o = some (.ref a) ∧ ξ = some (a, .ref (T.cls n), some da) ∧ H da = some (.xd [(T.fld n, v)]) ∧ Z da ∧ Rp K mg H Z d v) ∧ ∀ a, ¬ P a
end

/-- the state of a frame -/
structure Sta (K : Frag) (mg : Str → Option Value) (T : Tab) (ξ : Xi) (H : Hp) (Z : Addr → Prop) (F : Nat → Addr → Prop) (σ : L2.St) (ρ : Ro) : Prop where
  rep : ∀ i, RpS K mg T ξ H Z (ρ.getD i .no) (σ.getD i none) (F i)
  dj : ∀ i j a, i ≠ j → F i a → ¬ F j a
  ln : ρ.length = σ.length
  zf : ∀ i a, F i a → ¬ Z a
  zh : ∀ a, Z a → ∃ o, H a = some o
def own (F : Nat → Addr → Prop) : Addr → Prop := fun a => ∃ i, F i a

section
variable {K : Frag} {mg : Str → Option Value} {T : Tab} {ξ : Xi} {H H' : Hp} {Z Z' : Addr → Prop}
theorem RpM.mem : ∀ {dss : List (List D)} {qs : List Addr}, RpM K mg H Z dss qs → ∀ q ∈ qs, ∃ vs, H q = some (.lst vs)
  | [], _, h => by cases h; intro q hq; cases hq
  | _ :: _, _, ⟨q, qs', vs, e, h1, _, _, h3⟩ => by
    subst e
    intro r hr
    rcases List.mem_cons.mp hr with z | z
    · subst z; exact ⟨vs, h1⟩
    · exact RpM.mem h3 r z
theorem RpS.has {s : Sl} {o : Option V} {P : Addr → Prop} (h : RpS K mg T ξ H Z s o P) {a : Addr} (p : P a) : ∃ u, H a = some u := by
  cases s with
  | no => exact absurd p (h a)
  | dat d => exact absurd p (h.2 a)
  | ol ds =>
    obtain ⟨q, vs, _, hq, _, _, i⟩ := h
    obtain rfl := (i a).mp p
    exact ⟨_, hq⟩
  | om dss =>
    obtain ⟨q, qs, _, hq, _, _, hm, _, i⟩ := h
    rcases (i a).mp p with rfl | z
    · exact ⟨_, hq⟩
    · obtain ⟨vs, e⟩ := hm.mem a z
      exact ⟨_, e⟩
  | dr q cells at_ left =>
    obtain ⟨_, c, l, h1, h2, h3, _, i⟩ := h
    rcases (i a).mp p with rfl | rfl | rfl
    · exact ⟨_, h1⟩
    · exact ⟨_, h2⟩
    · exact ⟨_, h3⟩
  | exc n d => exact absurd p (h.2 a)
  | sc ns => exact absurd p (h.2 a)
theorem RpM.mono (k : ∀ b o, H b = some o → Z b → H' b = some o) (z : ∀ b, Z b → Z' b) : ∀ {dss : List (List D)} {qs : List Addr}, (∀ q ∈ qs, H' q = H q) → RpM K mg H Z dss qs → RpM K mg H' Z' dss qs
  | [], _, _, h => h
  | ds :: dss, _, kq, ⟨q, qs', vs, e, h1, h2, hn, h3⟩ => by
    subst e
    exact ⟨q, qs', vs, rfl, (kq q List.mem_cons_self).trans h1, RpL.mono k z ds vs h2, hn, RpM.mono k z (fun r hr => kq r (List.mem_cons_of_mem _ hr)) h3⟩
/-- a slot keeps its meaning where its own and the frozen ones are kept -/
theorem RpS.mono {s : Sl} {o : Option V} {P : Addr → Prop} (h : RpS K mg T ξ H Z s o P) (k : ∀ b o, H b = some o → Z b → H' b = some o) (kf : ∀ b o u, H b = some (.frz o u) → H' b = some (.frz o u)) (z : ∀ b, Z b → Z' b) (kp : ∀ a, P a → H' a = H a) : RpS K mg T ξ H' Z' s o P := by
  cases s with
  | no => exact h
  | dat d =>
    obtain ⟨⟨v, e, r⟩, n⟩ := h
    exact ⟨⟨v, e, Rp.mono k z d v r⟩, n⟩
  | ol ds =>
    obtain ⟨q, vs, e, hq, r, n, i⟩ := h
    exact ⟨q, vs, e, (kp q ((i q).mpr rfl)).trans hq, RpL.mono k z ds vs r, n, i⟩
  | om dss =>
    obtain ⟨q, qs, e, hq, nd, nm, hm, n, i⟩ := h
    exact ⟨q, qs, e, (kp q ((i q).mpr (.inl rfl))).trans hq, nd, nm, hm.mono k z fun r hr => kp r ((i r).mpr (.inr hr)), n, i⟩
  | dr q cells at_ left =>
    obtain ⟨e, c, l, h1, h2, h3, n, i⟩ := h
    exact ⟨e, c, l, (kp q ((i q).mpr (.inl rfl))).trans h1, (kp c ((i c).mpr (.inr (.inl rfl)))).trans h2, (kp l ((i l).mpr (.inr (.inr rfl)))).trans h3, n, i⟩
  | exc n d =>
    obtain ⟨⟨a, v, da, e, x, hd, zd, r⟩, nn⟩ := h
    exact ⟨⟨a, v, da, e, x, k _ _ hd zd, z _ zd, Rp.mono k z d v r⟩, nn⟩
  | sc ns =>
    obtain ⟨⟨a, e, hk⟩, nn⟩ := h
    exact ⟨⟨a, e, hk.elim (fun ⟨ob, q⟩ => .inl ⟨ob, kf _ _ _ q⟩) .inr⟩, nn⟩
theorem Sta.has {F : Nat → Addr → Prop} {σ : L2.St} {ρ : Ro} (s : Sta K mg T ξ H Z F σ ρ) {a : Addr} (h : own F a) : ∃ u, H a = some u :=
  let ⟨i, q⟩ := h
  (s.rep i).has q
theorem Sta.nofrz {F : Nat → Addr → Prop} {σ : L2.St} {ρ : Ro} (s : Sta K mg T ξ H Z F σ ρ) {a : Addr} {ob : Obj} {u : HO} (h : H a = some (.frz ob u)) : ¬ own F a := by
  rintro ⟨i, p⟩
  have r := s.rep i
  generalize ρ.getD i .no = sl at r
  generalize σ.getD i none = o at r
  cases sl with
  | no => exact r a p
  | dat d => exact r.2 a p
  | ol ds =>
    obtain ⟨q, vs, _, hq, _, _, j⟩ := r
    obtain rfl := (j a).mp p
    rw [h] at hq; cases hq
  | om dss =>
    obtain ⟨q, qs, _, hq, _, _, hm, _, j⟩ := r
    rcases (j a).mp p with rfl | z
    · rw [h] at hq; cases hq
    · obtain ⟨vs, e⟩ := hm.mem a z
      rw [h] at e; cases e
  | dr q cells at_ left =>
    obtain ⟨_, c, l, h1, h2, h3, _, j⟩ := r
    rcases (j a).mp p with rfl | rfl | rfl
    · rw [h] at h1; cases h1
    · rw [h] at h2; cases h2
    · rw [h] at h3; cases h3
  | exc n d => exact r.2 a p
  | sc ns => exact r.2 a p
/-- the state behind a step that leaves all owned ones alone (a callee, a new object) -/
theorem Sta.grow {F : Nat → Addr → Prop} {σ : L2.St} {ρ : Ro} {P : Addr → Prop} (s : Sta K mg T ξ H Z F σ ρ) (e : Ext H Z (fun _ => False) H' Z' P) (zh : ∀ a, Z' a → ∃ o, H' a = some o) : Sta K mg T ξ H' Z' F σ ρ where
  rep := fun i => (s.rep i).mono (fun b o h _ => e.keep b o h fun z => z) (fun b o u h => e.keep b _ h fun z => z) e.zz fun a p => by
    obtain ⟨u, h⟩ := (s.rep i).has p
    rw [h]
    exact e.keep a u h fun z => z
  dj := s.dj
  ln := s.ln
  zf := fun i a p z => (e.zo a z).elim (s.zf i a p) fun q => q.elim (fun x => x) fun n => by
    obtain ⟨u, h⟩ := (s.rep i).has p
    rw [h] at n; cases n
  zh := zh
theorem Ext.grow {O P : Addr → Prop} (e : Ext H Z (fun _ => False) H' Z' P) : Ext H Z O H' Z' (fun a => O a ∨ P a) where
  keep := fun b o h _ => e.keep b o h fun z => z
  zz := e.zz
  oo := fun a h => h.elim .inl fun p => (e.oo a p).elim (fun z => z.elim) .inr
  zo := fun a h => (e.zo a h).elim .inl fun q => q.elim (fun z => z.elim) fun n => .inr (.inr n)
theorem Ext.sub {O O' P' : Addr → Prop} (e : Ext H Z O H' Z' O') (h : ∀ a, P' a → O' a) : Ext H Z O H' Z' P' := ⟨e.keep, e.zz, fun a p => e.oo a (h a p), e.zo⟩
/-- data ahead of a step, behind it -/
theorem Rp.ext {O O' : Addr → Prop} (e : Ext H Z O H' Z' O') (dz : ∀ a, Z a → ¬ O a) {d : D} {v : V} (r : Rp K mg H Z d v) : Rp K mg H' Z' d v :=
  Rp.mono (fun b o h z => e.keep b o h (dz b z)) e.zz d v r
theorem RpL.ext {O O' : Addr → Prop} (e : Ext H Z O H' Z' O') (dz : ∀ a, Z a → ¬ O a) {ds : List D} {vs : List V} (r : RpL K mg H Z ds vs) : RpL K mg H' Z' ds vs :=
  RpL.mono (fun b o h z => e.keep b o h (dz b z)) e.zz ds vs r
theorem Sta.dz {F : Nat → Addr → Prop} {σ : L2.St} {ρ : Ro} (s : Sta K mg T ξ H Z F σ ρ) : ∀ a, Z a → ¬ own F a := fun a z ⟨i, p⟩ => s.zf i a p z
theorem Sta.df {F : Nat → Addr → Prop} {σ : L2.St} {ρ : Ro} (s : Sta K mg T ξ H Z F σ ρ) : ∀ a o u, H a = some (.frz o u) → ¬ own F a := fun _ _ _ h => s.nofrz h
/-- a new frozen object -/
theorem Ext.new {p : Addr} {o : HO} (h : H p = none) : Ext H Z (fun _ => False) (upd H p o) (fun a => Z a ∨ a = p) (fun _ => False) where
  keep := fun b u hb _ => by rw [upd_ne (ne_of_none hb h)]; exact hb
  zz := fun _ z => .inl z
  oo := fun _ z => z.elim
  zo := fun a z => z.elim .inl fun e => .inr (.inr (e ▸ h))
theorem zh_new {p : Addr} {o : HO} (zh : ∀ a, Z a → ∃ o, H a = some o) : ∀ a, (Z a ∨ a = p) → ∃ u, upd H p o a = some u := fun a z => by
  by_cases e : a = p
  · subst e; exact ⟨_, upd_same⟩
  · rw [upd_ne e]
    exact zh a (z.elim id fun q => absurd q e)
end
end Dt
namespace Dt
open PySem PySem.Spec PyProof.Rows L2

/-! ### 3. what is computed -/
inductive Res (α : Type) where
  | ok (a : α) (ρ : Ro)
  | ex (n : Nat) (d : D) (ρ : Ro)
  | st
@[simp] def Res.bind {α β : Type} (r : Res α) (g : α → Ro → Res β) : Res β := match r with
  | .ok a ρ => g a ρ
  | .ex n d ρ => .ex n d ρ
  | .st => .st
abbrev Fr (α : Type) := Ro → Res α
abbrev Z1 := Addr → Prop
abbrev F1 := Nat → Addr → Prop

section
variable (X : Cx) (T : Tab) (ξ : Xi) (W : WX) (σ : L2.St)
/-- behind an expression -/
def Pst {α : Type} (r : Res α) (k : α → Ro → Hp → Z1 → F1 → Prop) (H : Hp) (Z : Z1) (F : F1) : Prop := match r with
  | .ok a ρ' => ∀ H' Z' F', Ext H Z (own F) H' Z' (own F') → Sta X.K X.mg T ξ H' Z' F' σ ρ' → k a ρ' H' Z' F'
  | .ex n d ρ' => ∀ v H' Z' F' da, Ext H Z (own F) H' Z' (own F') → Sta X.K X.mg T ξ H' Z' F' σ ρ' → Rp X.K X.mg H' Z' d v → H' da = some (.xd [(T.fld n, v)]) → Z' da → W (.ref (T.cls n)) (some da) σ H'
  | .st => False
end
section
variable {X : Cx} {T : Tab} {ξ : Xi} {W : WX} {σ : L2.St} {α β : Type} {r : Res α} {k k' : α → Ro → Hp → Z1 → F1 → Prop} {H H1 : Hp} {Z Za : Z1} {F Fa : F1}
theorem Pst.shift (e : Ext H Z (own F) H1 Za (own Fa)) (h : Pst X T ξ W σ r k H Z F) : Pst X T ξ W σ r k H1 Za Fa := by
  cases r with
  | ok a ρ' => exact fun H' Z' F' e' s' => h H' Z' F' (e.trans e') s'
  | ex n d ρ' => exact fun v H' Z' F' da e' s' => h v H' Z' F' da (e.trans e') s'
  | st => exact h
theorem Pst.imp (h : Pst X T ξ W σ r k H Z F) (f : ∀ a ρ' H' Z' F', Ext H Z (own F) H' Z' (own F') → Sta X.K X.mg T ξ H' Z' F' σ ρ' → k a ρ' H' Z' F' → k' a ρ' H' Z' F') : Pst X T ξ W σ r k' H Z F := by
  cases r with
  | ok a ρ' => exact fun H' Z' F' e' s' => f a ρ' H' Z' F' e' s' (h H' Z' F' e' s')
  | ex n d ρ' => exact h
  | st => exact h
theorem Pst.bind {g : α → Ro → Res β} {kb : β → Ro → Hp → Z1 → F1 → Prop} (h : Pst X T ξ W σ (r.bind g) kb H Z F) : Pst X T ξ W σ r (fun a ρ1 H1 Z1 F1 => Pst X T ξ W σ (g a ρ1) kb H1 Z1 F1) H Z F := by
  cases r with
  | ok a ρ' => exact fun H' Z' F' e' s' => Pst.shift e' h
  | ex n d ρ' => exact h
  | st => exact h
theorem Pst.here {a : α} {ρ : Ro} (h : Pst X T ξ W σ (.ok a ρ) k H Z F) (s : Sta X.K X.mg T ξ H Z F σ ρ) : k a ρ H Z F := h H Z F (Ext.refl _ _ _) s
end

section
variable (X : Cx) (T : Tab) (ξ : Xi) (W : WX)
/-- an expression's reading by what it computes -/
def tDE (f : Fr D) : TE := fun σ H Q => ∃ ρ Z F, Sta X.K X.mg T ξ H Z F σ ρ ∧ Pst X T ξ W σ (f ρ) (fun d _ H' Z' _ => ∀ v, Rp X.K X.mg H' Z' d v → Q v H') H Z F
/-- a test's -/
def tDT (f : Fr Bool) : TT := fun σ H Q => ∃ ρ Z F, Sta X.K X.mg T ξ H Z F σ ρ ∧ Pst X T ξ W σ (f ρ) (fun b _ H' _ _ => Q b H') H Z F
/-- arguments -/
def tDA (f : Fr (List D)) : TA := fun σ H Q => ∃ ρ Z F, Sta X.K X.mg T ξ H Z F σ ρ ∧ Pst X T ξ W σ (f ρ) (fun ds _ H' Z' _ => ∀ vs, RpL X.K X.mg H' Z' ds vs → Q vs H') H Z F
/-- an expression whose value is a new list -/
def tDN (f : Fr (List D)) : TE := fun σ H Q => ∃ ρ Z F, Sta X.K X.mg T ξ H Z F σ ρ ∧ Pst X T ξ W σ (f ρ) (fun ds _ H' Z' F' => ∀ p vs H'', H'' p = some (.lst vs) → (∀ b, b ≠ p → H'' b = H' b) → H' p = none → RpL X.K X.mg H' Z' ds vs → ds.length ≤ sizeLine → Q (.ref p) H'') H Z F
end
/-- a value that is handed on, or the slot where it stands -/
inductive Hd where
  | at (i : Nat)
  | val (d : D)
@[simp] def Hd.look (ρ : Ro) : Hd → Option D
  | .val d => some d
  | .at i => match ρ.getD i .no with
    | .dat d => some d
    | .ol ds => some (.lst ds)
    | .om dss => some (.lst (dss.map .lst))
    | _ => none
def HdR (X : Cx) (H : Hp) (Z : Z1) (σ : L2.St) (v : V) : Hd → Prop
  | .val d => Rp X.K X.mg H Z d v
  | .at i => σ[i]? = some (some v)
section
variable (X : Cx) (T : Tab) (ξ : Xi) (W : WX)
/-- an expression whose value is looked at, not kept -/
def tDB (f : Fr Hd) : TE := fun σ H Q => ∃ ρ Z F, Sta X.K X.mg T ξ H Z F σ ρ ∧ Pst X T ξ W σ (f ρ) (fun h _ H' Z' _ => ∀ v, HdR X H' Z' σ v h → Q v H') H Z F
abbrev DE (e : Expr) (f : Fr D) : Prop := PE X e (tDE X T ξ W f)
abbrev DT (e : Expr) (f : Fr Bool) : Prop := PT X e (tDT X T ξ W f)
abbrev DA (es : List Expr) (f : Fr (List D)) : Prop := PA X es (tDA X T ξ W f)
abbrev DN (e : Expr) (f : Fr (List D)) : Prop := PE X e (tDN X T ξ W f)
abbrev DB (e : Expr) (f : Fr Hd) : Prop := PE X e (tDB X T ξ W f)
end

theorem _root_.L2.PE.to {X : Cx} {e : Expr} {t t' : TE} (h : PE X e t) (f : ∀ σ H Q, t' σ H Q → t σ H Q) : PE X e t' := ⟨fun pins s σ H Q I q => h.run pins s σ H Q I (f σ H Q q)⟩
theorem _root_.L2.PT.to {X : Cx} {e : Expr} {t t' : TT} (h : PT X e t) (f : ∀ σ H Q, t' σ H Q → t σ H Q) : PT X e t' := ⟨fun pins s σ H Q I q => h.run pins s σ H Q I (f σ H Q q)⟩
theorem _root_.L2.PA.to {X : Cx} {e : List Expr} {t t' : TA} (h : PA X e t) (f : ∀ σ H Q, t' σ H Q → t σ H Q) : PA X e t' := ⟨fun pos pins s σ H Q I q => h.run pos pins s σ H Q I (f σ H Q q)⟩
theorem _root_.L2.PS.to {X : Cx} {e : Stmt} {t t' : TS} (h : PS X e t) (f : ∀ D σ H, t' D σ H → t D σ H) : PS X e t' := ⟨fun pins s σ H D I q => h.run pins s σ H D I (f D σ H q)⟩
theorem _root_.L2.PSs.to {X : Cx} {e : List Stmt} {t t' : TS} (h : PSs X e t) (f : ∀ D σ H, t' D σ H → t D σ H) : PSs X e t' := ⟨fun pins s σ H D I q => h.run pins s σ H D I (f D σ H q)⟩

/-! ### 4. slots read, frozen, stored -/
def fset (F : F1) (i : Nat) (P : Z1) : F1 := fun j => if j = i then P else F j
theorem fset_same {F : F1} {i : Nat} {P : Z1} : fset F i P i = P := if_pos rfl
theorem fset_ne {F : F1} {i j : Nat} {P : Z1} (h : j ≠ i) : fset F i P j = F j := if_neg h
theorem getD_set {α : Type} {l : List α} {i j : Nat} {a d : α} (h : i < l.length) : (l.set i a).getD j d = if j = i then a else l.getD j d := by
  simp only [List.getD_eq_getElem?_getD]
  by_cases e : j = i
  · subst e
    rw [if_pos rfl, List.getElem?_set_self h]
    rfl
  · rw [if_neg e, List.getElem?_set_ne (Ne.symm e)]
section
variable {X : Cx} {T : Tab} {ξ : Xi} {W : WX} {σ : L2.St} {ρ : Ro} {H H' : Hp} {Z Z' : Z1} {F : F1}
/-- what slot i owns is frozen; d tells it -/
theorem Sta.freeze (s : Sta X.K X.mg T ξ H Z F σ ρ) {i : Nat} {d : D} {v : V} (hi : i < ρ.length) (hv : σ.getD i none = some v) (hd : Rp X.K X.mg H (fun a => Z a ∨ F i a) d v) :
    Sta X.K X.mg T ξ H (fun a => Z a ∨ F i a) (fset F i fun _ => False) σ (ρ.set i (.dat d)) ∧ Ext H Z (own F) H (fun a => Z a ∨ F i a) (own (fset F i fun _ => False)) := by
  refine ⟨⟨fun j => ?_, fun j l a n h1 h2 => ?_, by rw [List.length_set]; exact s.ln, fun j a h z => ?_, fun a z => ?_⟩, ⟨fun _ _ h _ => h, fun _ z => .inl z, fun a ⟨j, h⟩ => ?_, fun a z => z.elim .inl fun q => .inr (.inl ⟨i, q⟩)⟩⟩
  · rw [getD_set hi]
    by_cases e : j = i
    · subst e
      rw [if_pos rfl, fset_same]
      exact ⟨⟨v, hv, hd⟩, fun _ z => z⟩
    · rw [if_neg e, fset_ne e]
      exact (s.rep j).mono (fun _ _ h _ => h) (fun _ _ _ h => h) (fun _ z => .inl z) fun _ _ => rfl
  · by_cases e : j = i
    · subst e; rw [fset_same] at h1; exact h1
    · by_cases e' : l = i
      · subst e'; rw [fset_same] at h2; exact h2
      · rw [fset_ne e] at h1
        rw [fset_ne e'] at h2
        exact s.dj j l a n h1 h2
  · by_cases e : j = i
    · subst e; rw [fset_same] at h; exact h
    · rw [fset_ne e] at h
      exact z.elim (s.zf j a h) fun q => s.dj j i a e h q
  · rcases z with z | z
    · exact s.zh a z
    · exact (s.rep i).has z
  · by_cases e : j = i
    · subst e; rw [fset_same] at h; exact h.elim
    · rw [fset_ne e] at h
      exact .inl ⟨j, h⟩
theorem Rp.wider {K : Frag} {mg : Str → Option Value} {d : D} {v : V} (h : Rp K mg H Z d v) (z : ∀ a, Z a → Z' a) : Rp K mg H Z' d v := Rp.mono (fun _ _ h _ => h) z d v h
theorem RpL.wider {K : Frag} {mg : Str → Option Value} {d : List D} {v : List V} (h : RpL K mg H Z d v) (z : ∀ a, Z a → Z' a) : RpL K mg H Z' d v := RpL.mono (fun _ _ h _ => h) z d v h
theorem RpM.frz {K : Frag} {mg : Str → Option Value} : ∀ {dss : List (List D)} {qs : List Addr}, RpM K mg H Z dss qs → (∀ a, Z a → Z' a) → (∀ q ∈ qs, Z' q) → RpL K mg H Z' (dss.map D.lst) (qs.map V.ref)
  | [], _, h, _, _ => by cases h; rfl
  | ds :: dss, _, ⟨q, qs', vs, e, h1, h2, hn, h3⟩, z, hq => by
    subst e
    exact ⟨.ref q, _, rfl, ⟨q, vs, rfl, ⟨hq q List.mem_cons_self, h1⟩, h2.wider z, hn⟩, RpM.frz h3 z fun r hr => hq r (List.mem_cons_of_mem _ hr)⟩
@[simp] def fVar (i : Nat) : Fr D := fun ρ => match ρ.getD i .no with
  | .dat d => .ok d ρ
  | .ol ds => .ok (.lst ds) (ρ.set i (.dat (.lst ds)))
  | .om dss => .ok (.lst (dss.map .lst)) (ρ.set i (.dat (.lst (dss.map .lst))))
  | _ => .st
theorem getD_some {α : Type} {l : List (Option α)} {i : Nat} {v : α} (h : l.getD i none = some v) : l[i]? = some (some v) := by
  rw [List.getD_eq_getElem?_getD] at h
  cases e : l[i]? with
  | none => rw [e] at h; cases h
  | some o => rw [e] at h; exact congrArg some h
theorem some_getD {α : Type} {l : List (Option α)} {i : Nat} {v : α} (h : l[i]? = some (some v)) : l.getD i none = some v := by
  rw [List.getD_eq_getElem?_getD, h]
  rfl
theorem lt_of_getD {i : Nat} {s : Sl} (h : ρ.getD i .no = s) (n : s ≠ .no) : i < ρ.length := by
  apply Classical.byContradiction
  intro q
  rw [List.getD_eq_getElem?_getD, List.getElem?_eq_none (by omega)] at h
  exact n h.symm
theorem de_var (i : Nat) {x : Str} {pos : Pos} (hN : X.N[i]? = some x := by rfl) (hv : Vis X.env.scope x := by first | exact Or.inl rfl | exact Or.inr (Or.inl rfl) | exact Or.inr (Or.inr rfl)) (hd : (x == ("__debug__" : Str)) = false := by decide) (hcd : (x == ("__classdict__" : Str)) = false := by decide) :
    DE X T ξ W (.Name x pos) (fVar i) := by
  refine (pe_var hN hv hd hcd).to fun σ H Q ⟨ρ, Z, F, s, h⟩ => ?_
  have r := s.rep i
  unfold fVar at h
  cases e : ρ.getD i .no with
  | dat d =>
    rw [e] at h r
    obtain ⟨⟨v, e1, r⟩, _⟩ := r
    exact ⟨v, getD_some e1, h.here s v r⟩
  | ol ds =>
    rw [e] at h r
    obtain ⟨p, vs, e1, e2, r, n, ip⟩ := r
    have hi := lt_of_getD e nofun
    have hd : Rp X.K X.mg H (fun a => Z a ∨ F i a) (.lst ds) (.ref p) := ⟨p, vs, rfl, ⟨.inr ((ip p).mpr rfl), e2⟩, r.wider fun _ => .inl, n⟩
    obtain ⟨s1, e1'⟩ := s.freeze hi e1 hd
    exact ⟨.ref p, getD_some e1, h _ _ _ e1' s1 _ hd⟩
  | om dss =>
    rw [e] at h r
    obtain ⟨p, qs, e1, e2, nd, nm, r, n, ip⟩ := r
    have hi := lt_of_getD e nofun
    have hd : Rp X.K X.mg H (fun a => Z a ∨ F i a) (.lst (dss.map .lst)) (.ref p) :=
      ⟨p, _, rfl, ⟨.inr ((ip p).mpr (.inl rfl)), e2⟩, r.frz (fun _ => .inl) fun q hq => .inr ((ip q).mpr (.inr hq)), by rw [List.length_map]; exact n⟩
    obtain ⟨s1, e1'⟩ := s.freeze hi e1 hd
    exact ⟨.ref p, getD_some e1, h _ _ _ e1' s1 _ hd⟩
  | no => rw [e] at h; exact h.elim
  | dr _ _ _ _ => rw [e] at h; exact h.elim
  | exc _ _ => rw [e] at h; exact h.elim
  | sc _ => rw [e] at h; exact h.elim
/-- .. where it is only looked at -/
@[simp] def fAt (i : Nat) : Fr Hd := fun ρ => match ρ.getD i .no with
  | .dat _ => .ok (.at i) ρ
  | .ol _ => .ok (.at i) ρ
  | .om _ => .ok (.at i) ρ
  | _ => .st
theorem db_var (i : Nat) {x : Str} {pos : Pos} (hN : X.N[i]? = some x := by rfl) (hv : Vis X.env.scope x := by first | exact Or.inl rfl | exact Or.inr (Or.inl rfl) | exact Or.inr (Or.inr rfl)) (hd : (x == ("__debug__" : Str)) = false := by decide) (hcd : (x == ("__classdict__" : Str)) = false := by decide) :
    DB X T ξ W (.Name x pos) (fAt i) := by
  refine (pe_var hN hv hd hcd).to fun σ H Q ⟨ρ, Z, F, s, h⟩ => ?_
  have r := s.rep i
  unfold fAt at h
  cases e : ρ.getD i .no with
  | dat d =>
    rw [e] at h r
    obtain ⟨⟨v, e1, r⟩, _⟩ := r
    exact ⟨v, getD_some e1, h.here s v (getD_some e1)⟩
  | ol ds =>
    rw [e] at h r
    obtain ⟨p, vs, e1, _⟩ := r
    exact ⟨.ref p, getD_some e1, h.here s _ (getD_some e1)⟩
  | om dss =>
    rw [e] at h r
    obtain ⟨p, qs, e1, _⟩ := r
    exact ⟨.ref p, getD_some e1, h.here s _ (getD_some e1)⟩
  | no => rw [e] at h; exact h.elim
  | dr _ _ _ _ => rw [e] at h; exact h.elim
  | exc _ _ => rw [e] at h; exact h.elim
  | sc _ => rw [e] at h; exact h.elim
/-- what may be looked at: a value's data, or a list that is owned -/
def RpB (X : Cx) (H : Hp) (Z O : Z1) (d : D) (v : V) : Prop := Rp X.K X.mg H (fun a => Z a ∨ O a) d v
theorem Sta.look (s : Sta X.K X.mg T ξ H Z F σ ρ) {h : Hd} {d : D} {v : V} (r : HdR X H Z σ v h) (e : h.look ρ = some d) : RpB X H Z (own F) d v := by
  cases h with
  | val d' =>
    cases (show some d' = some d from e)
    exact Rp.wider r fun _ => .inl
  | «at» i =>
    have r' : σ.getD i none = some v := some_getD r
    have q := s.rep i
    rw [r'] at q
    cases ee : ρ.getD i .no with
    | dat d' =>
      rw [ee] at q
      simp only [Hd.look, ee] at e
      cases e
      obtain ⟨⟨u, e1, r1⟩, _⟩ := q
      cases e1
      exact Rp.wider r1 fun _ => .inl
    | ol ds =>
      rw [ee] at q
      simp only [Hd.look, ee] at e
      cases e
      obtain ⟨p, vs, e1, e2, r1, n, ip⟩ := q
      cases e1
      exact ⟨p, vs, rfl, ⟨.inr ⟨i, (ip p).mpr rfl⟩, e2⟩, r1.wider fun _ => .inl, n⟩
    | om dss =>
      rw [ee] at q
      simp only [Hd.look, ee] at e
      cases e
      obtain ⟨p, qs, e1, e2, nd, nm, r1, n, ip⟩ := q
      cases e1
      exact ⟨p, _, rfl, ⟨.inr ⟨i, (ip p).mpr (.inl rfl)⟩, e2⟩, r1.frz (fun _ => .inl) fun q hq => .inr ⟨i, (ip q).mpr (.inr hq)⟩, by rw [List.length_map]; exact n⟩
    | no => simp only [Hd.look, ee] at e; cases e
    | dr _ _ _ _ => simp only [Hd.look, ee] at e; cases e
    | exc _ _ => simp only [Hd.look, ee] at e; cases e
    | sc _ => simp only [Hd.look, ee] at e; cases e
theorem HdR.ext {O' : Z1} {v : V} (s : Sta X.K X.mg T ξ H Z F σ ρ) (e : Ext H Z (own F) H' Z' O') {h : Hd} (r : HdR X H Z σ v h) : HdR X H' Z' σ v h := by
  cases h with
  | val d => exact Rp.ext e s.dz r
  | «at» i => exact r
@[simp] def fVal (f : Fr D) : Fr Hd := fun ρ => (f ρ).bind fun d ρ' => .ok (.val d) ρ'
theorem db_of {e : Expr} {f : Fr D} (h : DE X T ξ W e f) : DB X T ξ W e (fVal f) := by
  refine PE.to h fun σ H Q ⟨ρ, Z, F, s, h⟩ => ⟨ρ, Z, F, s, ?_⟩
  exact (Pst.bind h).imp fun d ρ' H' Z' F' _ s' k v r => k.here s' v r

/-! ### 5. constants -/
@[simp] def fC (d : D) : Fr D := fun ρ => .ok d ρ
theorem de_int {i : Int} {j pos} : DE X T ξ W (.Constant (.int i) j pos) (fC (.int i)) := pe_int.to fun _ _ _ ⟨_, _, _, s, h⟩ => h.here s _ rfl
theorem de_bl {b j pos} : DE X T ξ W (.Constant (.bool b) j pos) (fC (.bl b)) := pe_bl.to fun _ _ _ ⟨_, _, _, s, h⟩ => h.here s _ rfl
theorem de_non {j pos} : DE X T ξ W (.Constant .none j pos) (fC .non) := pe_non.to fun _ _ _ ⟨_, _, _, s, h⟩ => h.here s _ rfl
theorem de_str {x j pos} : DE X T ξ W (.Constant (.str x) j pos) (fC (.str x)) := pe_str.to fun _ _ _ ⟨_, _, _, s, h⟩ => h.here s _ rfl
/-- a name of the module -/
theorem de_glob {x : Str} {d : D} {v : V} {u : Value} {pos : Pos} (hg : Gl X x) (hm : X.mg x = some u) (r : RelV v u) (hr : ∀ H Z, Rp X.K X.mg H Z d v) (hd : (x == ("__debug__" : Str)) = false := by decide) : DE X T ξ W (.Name x pos) (fC d) :=
  (pe_glob hg hm r hd).to fun _ H _ ⟨_, Z, _, s, h⟩ => h.here s _ (hr _ _)
theorem de_fn {x : Str} {a : Addr} {pos : Pos} (hg : Gl X x) (hm : X.mg x = some (.ref a)) (hd : (x == ("__debug__" : Str)) = false := by decide) : DE X T ξ W (.Name x pos) (fC (.fn x)) :=
  de_glob (v := .ref a) hg hm rfl (fun _ _ => ⟨a, rfl, hm⟩) hd

/-! ### 6. arguments, displays -/
@[simp] def fNil : Fr (List D) := fun ρ => .ok [] ρ
@[simp] def fCons (f : Fr D) (g : Fr (List D)) : Fr (List D) := fun ρ => (f ρ).bind fun d ρ1 => (g ρ1).bind fun ds ρ2 => .ok (d :: ds) ρ2
theorem da_nil : DA X T ξ W [] fNil := pa_nil.to fun _ _ _ ⟨_, _, _, s, h⟩ => h.here s _ rfl
theorem da_cons {e : Expr} {es : List Expr} {f : Fr D} {g : Fr (List D)} (ha : DE X T ξ W e f) (hr : DA X T ξ W es g) (hs : starEach (e :: es) X.env = (false, eval e X.env) :: starEach es X.env := by rfl) : DA X T ξ W (e :: es) (fCons f g) := by
  refine (pa_cons ha hr hs).to fun σ H Q ⟨ρ, Z, F, s, h⟩ => ⟨ρ, Z, F, s, ?_⟩
  refine (Pst.bind h).imp fun d ρ1 H1 Z1 F1 e1 s1 h1 v rv => ⟨ρ1, Z1, F1, s1, (Pst.bind h1).imp fun ds ρ2 H2 Z2 F2 e2 s2 h2 vs rvs => ?_⟩
  exact h2.here s2 _ ⟨v, vs, rfl, rv.ext e2 s1.dz, rvs⟩
theorem Sta.new (s : Sta X.K X.mg T ξ H Z F σ ρ) {p : Addr} {o : HO} (h : H p = none) : Sta X.K X.mg T ξ (upd H p o) (fun a => Z a ∨ a = p) F σ ρ := s.grow (Ext.new h) (zh_new s.zh)
theorem Ext.new' {p : Addr} {o : HO} {O : Z1} (h : H p = none) : Ext H Z O (upd H p o) (fun a => Z a ∨ a = p) O := (Ext.new (Z := Z) (o := o) h).grow.sub fun _ => .inl
theorem RpL.new {p : Addr} {o : HO} (s : Sta X.K X.mg T ξ H Z F σ ρ) (h : H p = none) {ds : List D} {vs : List V} (r : RpL X.K X.mg H Z ds vs) : RpL X.K X.mg (upd H p o) (fun a => Z a ∨ a = p) ds vs := r.ext (Ext.new' (O := own F) h) s.dz
@[simp] def fTup (f : Fr (List D)) : Fr D := fun ρ => (f ρ).bind fun ds ρ' => if ds.length ≤ 1000 then .ok (.tup ds) ρ' else .st
theorem le1000 {n : Nat} (h : n ≤ 1000) : n ≤ sizeLine := by rw [sizeLine_eq]; omega
theorem de_tup {es : List Expr} {x1} {pos : Pos} {f : Fr (List D)} (h : DA X T ξ W es f) : DE X T ξ W (.Tuple es x1 pos) (fTup f) := by
  refine (pe_tup h).to fun σ H Q ⟨ρ, Z, F, s, h⟩ => ⟨ρ, Z, F, s, ?_⟩
  refine (Pst.bind h).imp fun ds ρ1 H1 Z1 F1 e1 s1 h1 vs rvs => ?_
  by_cases c : ds.length ≤ 1000
  · rw [if_pos c] at h1
    refine ⟨by rw [rvs.length]; exact le1000 c, fun p hp => ?_⟩
    exact h1 _ _ _ (Ext.new' hp) (s1.new hp) _ ⟨p, vs, rfl, .inl ⟨.inr rfl, upd_same⟩, rvs.new s1 hp, le1000 c⟩
  · rw [if_neg c] at h1
    exact h1.elim
@[simp] def fLst (f : Fr (List D)) : Fr (List D) := fun ρ => (f ρ).bind fun ds ρ' => if ds.length ≤ 1000 then .ok ds ρ' else .st
theorem upd_other {p : Addr} {o : HO} : ∀ b, b ≠ p → upd H p o b = H b := fun _ h => upd_ne h
theorem dn_lst {es : List Expr} {pos : Pos} {f : Fr (List D)} (h : DA X T ξ W es f) : DN X T ξ W (.List es pos) (fLst f) := by
  refine (pe_lst h).to fun σ H Q ⟨ρ, Z, F, s, h⟩ => ⟨ρ, Z, F, s, ?_⟩
  refine (Pst.bind h).imp fun ds ρ1 H1 Z1 F1 e1 s1 h1 vs rvs => ?_
  by_cases c : ds.length ≤ 1000
  · rw [if_pos c] at h1
    exact ⟨by rw [rvs.length]; exact le1000 c, fun p hp => h1.here s1 p vs _ upd_same upd_other hp rvs (le1000 c)⟩
  · rw [if_neg c] at h1
    exact h1.elim
/-- a new list, frozen -/
@[simp] def fFr (f : Fr (List D)) : Fr D := fun ρ => (f ρ).bind fun ds ρ' => .ok (.lst ds) ρ'
theorem upd_of {p : Addr} {o : HO} {H'' : Hp} (h1 : H'' p = some o) (h2 : ∀ b, b ≠ p → H'' b = H b) : H'' = upd H p o := by
  funext b
  by_cases e : b = p
  · subst e; rw [h1, upd_same]
  · rw [h2 b e, upd_ne e]
theorem imp_frz {f : Fr (List D)} {Q : VK} (h : tDE X T ξ W (fFr f) σ H Q) : tDN X T ξ W f σ H Q := by
  obtain ⟨ρ, Z, F, s, h⟩ := h
  refine ⟨ρ, Z, F, s, ?_⟩
  refine (Pst.bind h).imp fun ds ρ1 H1 Z1 F1 e1 s1 h1 p vs H2 hp ho hn rvs hl => ?_
  have e := upd_of hp ho
  subst e
  exact h1 _ _ _ (Ext.new' hn) (s1.new hn) _ ⟨p, vs, rfl, ⟨.inr rfl, upd_same⟩, rvs.new s1 hn, hl⟩
theorem de_frz {e : Expr} {f : Fr (List D)} (h : DN X T ξ W e f) : DE X T ξ W e (fFr f) := PE.to h fun σ H Q q => imp_frz q

/-! ### 7. operators -/
@[simp] def fBin (op : D → D → Option D) (f g : Fr D) : Fr D := fun ρ => (f ρ).bind fun x ρ1 => (g ρ1).bind fun y ρ2 => match op x y with
  | some z => .ok z ρ2
  | none => .st
/-- an operator upon immediate values -/
theorem de_op {a b : Expr} {op : Operator} {r : R2} {pos : Pos} {f g : Fr D} {o : D → D → Option D} (ho : OpR X (binaryOp op) r)
    (hr : ∀ x y z v w H Z (Q : VK), o x y = some z → Rp X.K X.mg H Z x v → Rp X.K X.mg H Z y w → (∀ u, Rp X.K X.mg H Z z u → Q u H) → r v w H Q) (ha : DE X T ξ W a f) (hb : DE X T ξ W b g) : DE X T ξ W (.BinOp a op b pos) (fBin o f g) := by
  refine (pe_op ho ha hb).to fun σ H Q ⟨ρ, Z, F, s, h⟩ => ⟨ρ, Z, F, s, ?_⟩
  refine (Pst.bind h).imp fun x ρ1 H1 Z1 F1 e1 s1 h1 v rv => ⟨ρ1, Z1, F1, s1, (Pst.bind h1).imp fun y ρ2 H2 Z2 F2 e2 s2 h2 w rw' => ?_⟩
  cases e : o x y with
  | none => rw [e] at h2; exact h2.elim
  | some z =>
    rw [e] at h2
    exact hr x y z v w H2 Z2 Q e (rv.ext e2 s1.dz) rw' fun u ru => h2.here s2 u ru
@[simp] def oI (c : Int → Int → Bool) (g : Int → Int → D) : D → D → Option D
  | .int i, .int j => if c i j then some (g i j) else none
  | _, _ => none
theorem oI_some {c : Int → Int → Bool} {g : Int → Int → D} {x y z : D} (h : oI c g x y = some z) : ∃ i j, x = .int i ∧ y = .int j ∧ c i j = true ∧ z = g i j := by
  cases x <;> cases y <;> first
    | (rename_i i j
       refine ⟨i, j, rfl, rfl, ?_⟩
       unfold oI at h
       by_cases e : c i j = true
       · simp only [e, if_true] at h
         exact ⟨e, (Option.some.inj h).symm⟩
       · simp only [e] at h
         cases h)
    | (cases h)
theorem de_opI {a b : Expr} {op : Operator} {pos : Pos} {f g : Fr D} {c : Int → Int → Bool} {q : Int → Int → Int} {C : Int → Int → Prop} (ho : OpR X (binaryOp op) (rI C fun i j => .int (q i j))) (hc : ∀ i j, c i j = true → C i j)
    (ha : DE X T ξ W a f) (hb : DE X T ξ W b g) : DE X T ξ W (.BinOp a op b pos) (fBin (oI c fun i j => .int (q i j)) f g) := by
  refine de_op ho (fun x y z v w H Z Q e rx ry k => ?_) ha hb
  obtain ⟨i, j, rfl, rfl, hcc, rfl⟩ := oI_some e
  exact ⟨i, j, rx, ry, hc i j hcc, k _ rfl⟩
theorem de_opI0 {a b : Expr} {op : Operator} {pos : Pos} {f g : Fr D} {q : Int → Int → Int} (ho : OpR X (binaryOp op) (rI0 fun i j => .int (q i j)))
    (ha : DE X T ξ W a f) (hb : DE X T ξ W b g) : DE X T ξ W (.BinOp a op b pos) (fBin (oI (fun _ _ => true) fun i j => .int (q i j)) f g) := by
  refine de_op ho (fun x y z v w H Z Q e rx ry k => ?_) ha hb
  obtain ⟨i, j, rfl, rfl, hcc, rfl⟩ := oI_some e
  exact ⟨i, j, rx, ry, k _ rfl⟩
abbrev oAdd := oI (fun _ _ => true) fun i j => D.int (i + j)
abbrev oSub := oI (fun _ _ => true) fun i j => D.int (i - j)
/-- both together below a million bits -/
@[simp] def mulOk (i j : Int) : Bool := decide (i.natAbs.log2 + j.natAbs.log2 < 1000000)
/-- the divisor below 2 ^ 9000, not 0 -/
@[simp] def divOk (_ j : Int) : Bool := decide (j ≠ 0 ∧ j.natAbs.log2 < 9000)
abbrev oMul := oI mulOk fun i j => D.int (i * j)
abbrev oDiv := oI divOk fun i j => D.int (i.fdiv j)
abbrev oMod := oI (fun _ j => decide (j ≠ 0)) fun i j => D.int (i.fmod j)
theorem op_fdivA : OpR X (binaryOp .FloorDiv) (rI (fun _ j => j ≠ 0 ∧ j.natAbs.log2 < 9000) fun i j => .int (i.fdiv j)) :=
  opI fun i j _ _ _ _ _ hc q => floordiv_int hc.1 q (.inl (PyProof.noPylong_of_log2 hc.2))
section
variable {a b : Expr} {pos : Pos} {f g : Fr D}
theorem de_add (ha : DE X T ξ W a f) (hb : DE X T ξ W b g) : DE X T ξ W (.BinOp a .Add b pos) (fBin oAdd f g) := de_opI0 op_add ha hb
theorem de_sub (ha : DE X T ξ W a f) (hb : DE X T ξ W b g) : DE X T ξ W (.BinOp a .Sub b pos) (fBin oSub f g) := de_opI0 op_sub ha hb
theorem de_mul (ha : DE X T ξ W a f) (hb : DE X T ξ W b g) : DE X T ξ W (.BinOp a .Mult b pos) (fBin oMul f g) := de_opI op_mulW (fun i j h => show i.natAbs.log2 + j.natAbs.log2 < 1000000 from of_decide_eq_true h) ha hb
theorem de_div (ha : DE X T ξ W a f) (hb : DE X T ξ W b g) : DE X T ξ W (.BinOp a .FloorDiv b pos) (fBin oDiv f g) := de_opI op_fdivA (fun i j h => of_decide_eq_true h) ha hb
theorem de_mod (ha : DE X T ξ W a f) (hb : DE X T ξ W b g) : DE X T ξ W (.BinOp a .Mod b pos) (fBin oMod f g) := de_opI op_modN (fun i j h => of_decide_eq_true h) ha hb
end
end
end Dt
namespace Dt
open PySem PySem.Spec PyProof.Rows L2

/-! ### 8. data compared -/
mutual
def D.py : D → PyData
  | .non => .none
  | .bl b => .bool b
  | .int i => .int i
  | .str x => .str x
  | .tup xs => .tuple (pys xs)
  | .lst xs => .list (pys xs)
  | .dic => .dict []
  | .fn _ => .none
def pys : List D → List PyData
  | [] => []
  | d :: ds => d.py :: pys ds
end
mutual
/-- no dict, no def within -/
def D.pl : D → Bool
  | .tup xs => plAll xs
  | .lst xs => plAll xs
  | .dic => false
  | .fn _ => false
  | _ => true
def plAll : List D → Bool
  | [] => true
  | d :: ds => d.pl && plAll ds
end
mutual
def eqD : D → D → Bool
  | .non, .non => true
  | .bl a, .bl b => a == b
  | .bl a, .int j => (if a then 1 else 0) == j
  | .int i, .bl b => i == (if b then 1 else 0)
  | .int i, .int j => i == j
  | .str x, .str y => x == y
  | .lst xs, .lst ys => eqDs xs ys
  | .tup xs, .tup ys => eqDs xs ys
  | _, _ => false
def eqDs : List D → List D → Bool
  | [], [] => true
  | x :: xs, y :: ys => eqD x y && eqDs xs ys
  | _, _ => false
end
mutual
theorem eqD_py : ∀ d e : D, d.pl = true → e.pl = true → eqD d e = PyData.eqv d.py e.py
  | .non, e, _, h => by cases e <;> first | rfl | (simp [D.pl] at h)
  | .bl a, e, _, h => by cases e <;> first | rfl | (simp [D.pl] at h)
  | .int a, e, _, h => by cases e <;> first | rfl | (simp [D.pl] at h)
  | .str a, e, _, h => by cases e <;> first | rfl | (simp [D.pl] at h)
  | .tup xs, e, g, h => by
    cases e with
    | tup ys =>
      simp only [D.pl] at g h
      simp only [eqD, D.py, PyData.eqv]
      exact eqDs_py xs ys g h
    | _ => first | rfl | (simp [D.pl] at h)
  | .lst xs, e, g, h => by
    cases e with
    | lst ys =>
      simp only [D.pl] at g h
      simp only [eqD, D.py, PyData.eqv]
      exact eqDs_py xs ys g h
    | _ => first | rfl | (simp [D.pl] at h)
  | .dic, _, g, _ => by simp [D.pl] at g
  | .fn _, _, g, _ => by simp [D.pl] at g
theorem eqDs_py : ∀ ds es : List D, plAll ds = true → plAll es = true → eqDs ds es = PyData.eqvAll (pys ds) (pys es)
  | [], [], _, _ => by simp only [eqDs, pys, PyData.eqvAll]
  | [], _ :: _, _, _ => by simp only [eqDs, pys, PyData.eqvAll]
  | _ :: _, [], _, _ => by simp only [eqDs, pys, PyData.eqvAll]
  | d :: ds, e :: es, g, h => by
    simp only [plAll, Bool.and_eq_true] at g h
    simp only [eqDs, pys, PyData.eqvAll]
    rw [eqD_py d e g.1 h.1, eqDs_py ds es g.2 h.2]
end
/-- may be compared as a whole -/
def D.okq (d : D) : Bool := d.pl && SeqAt.shaped d.py
section
variable {X : Cx} {T : Tab} {ξ : Xi} {W : WX} {σ : L2.St} {ρ : Ro} {H H' : Hp} {Z Z' : Z1} {F : F1}
mutual
theorem Rp.dp : ∀ (d : D) (v : V), d.pl = true → Rp X.K X.mg H Z d v → Dp X.K H v d.py
  | .non, _, _, h => by cases h; exact .non
  | .bl b, _, _, h => by cases h; exact .bl b
  | .int i, _, _, h => by cases h; exact .int i
  | .str x, _, _, h => by cases h; exact .str x
  | .tup ds, _, g, ⟨a, vs, e, t, r, _⟩ => by subst e; exact .tup t.sq (RpL.dp ds vs (by simpa [D.pl] using g) r)
  | .lst ds, _, g, ⟨a, vs, e, t, r, _⟩ => by subst e; exact .lst t.sq (RpL.dp ds vs (by simpa [D.pl] using g) r)
  | .dic, _, g, _ => by simp [D.pl] at g
  | .fn _, _, g, _ => by simp [D.pl] at g
theorem RpL.dp : ∀ (ds : List D) (vs : List V), plAll ds = true → RpL X.K X.mg H Z ds vs → DpAll X.K H vs (pys ds)
  | [], _, _, h => by cases h; exact .nil
  | d :: ds, _, g, ⟨v, vs', e, h1, h2⟩ => by
    subst e
    simp only [plAll, Bool.and_eq_true] at g
    exact .cons (Rp.dp d v g.1 h1) (RpL.dp ds vs' g.2 h2)
end
/-- two that are looked at -/
@[simp] def fLook2 {α : Type} (op : D → D → Option α) (f g : Fr Hd) : Fr α := fun ρ => (f ρ).bind fun h1 ρ1 => (g ρ1).bind fun h2 ρ2 => match h1.look ρ2, h2.look ρ2 with
  | some x, some y => match op x y with
    | some z => .ok z ρ2
    | none => .st
  | _, _ => .st
/-- two looked at: the reading of an operator upon both -/
theorem look2 {α : Type} {op : D → D → Option α} {f g : Fr Hd} {k : α → Ro → Hp → Z1 → F1 → Prop} {r : V → V → Hp → Prop}
    (hr : ∀ x y z v w H Z O ρ F, op x y = some z → RpB X H Z O x v → RpB X H Z O y w → Sta X.K X.mg T ξ H Z F σ ρ → k z ρ H Z F → r v w H) {H : Hp} {Z : Z1} {F : F1} (s : Sta X.K X.mg T ξ H Z F σ ρ) (h : Pst X T ξ W σ (fLook2 op f g ρ) k H Z F) :
    tDB X T ξ W f σ H fun v H1 => tDB X T ξ W g σ H1 fun w H2 => r v w H2 := by
  refine ⟨ρ, Z, F, s, (Pst.bind h).imp fun h1 ρ1 H1 Z1 F1 e1 s1 q1 v rv => ⟨ρ1, Z1, F1, s1, (Pst.bind q1).imp fun h2 ρ2 H2 Z2 F2 e2 s2 q2 w rw' => ?_⟩⟩
  have rv' := rv.ext s1 e2
  cases l1 : h1.look ρ2 with
  | none => simp only [l1] at q2; exact q2.elim
  | some x =>
    cases l2 : h2.look ρ2 with
    | none => simp only [l1, l2] at q2; exact q2.elim
    | some y =>
      simp only [l1, l2] at q2
      cases e : op x y with
      | none => simp only [e] at q2; exact q2.elim
      | some z =>
        simp only [e] at q2
        exact hr x y z v w H2 Z2 _ ρ2 F2 e (s2.look rv' l1) (s2.look rw' l2) s2 (q2.here s2)
@[simp] def oEq (x y : D) : Option Bool := if x.okq && y.okq then some (eqD x y) else none
@[simp] def oNe (x y : D) : Option Bool := if x.okq && y.okq then some (!eqD x y) else none
theorem oEq_some {x y : D} {b : Bool} (h : oEq x y = some b) : (x.pl = true ∧ SeqAt.shaped x.py = true) ∧ (y.pl = true ∧ SeqAt.shaped y.py = true) ∧ b = PyData.eqv x.py y.py := by
  unfold oEq at h
  by_cases c : (x.okq && y.okq) = true
  · rw [if_pos c] at h
    simp only [D.okq, Bool.and_eq_true] at c
    exact ⟨c.1, c.2, by rw [← eqD_py x y c.1.1 c.2.1]; exact (Option.some.inj h).symm⟩
  · rw [if_neg c] at h; cases h
theorem oNe_some {x y : D} {b : Bool} (h : oNe x y = some b) : (x.pl = true ∧ SeqAt.shaped x.py = true) ∧ (y.pl = true ∧ SeqAt.shaped y.py = true) ∧ b = !PyData.eqv x.py y.py := by
  unfold oNe at h
  by_cases c : (x.okq && y.okq) = true
  · rw [if_pos c] at h
    simp only [D.okq, Bool.and_eq_true] at c
    exact ⟨c.1, c.2, by rw [← eqD_py x y c.1.1 c.2.1]; exact (Option.some.inj h).symm⟩
  · rw [if_neg c] at h; cases h
@[simp] def fBl (f : Fr Bool) : Fr D := fun ρ => (f ρ).bind fun b ρ' => .ok (.bl b) ρ'
section
variable {a b : Expr} {pos : Pos} {f g : Fr Hd}
theorem de_cmp {op : CmpOp} {r : R2} {o : D → D → Option Bool} (ho : OpR X (compareOp op) r) (hr : ∀ x y z v w H Z O, o x y = some z → RpB X H Z O x v → RpB X H Z O y w → ∀ Q : VK, Q (.bl z) H → r v w H Q)
    (ha : DB X T ξ W a f) (hb : DB X T ξ W b g) (hm : behindInMarks op b = false) : DE X T ξ W (.Compare a [op] [b] pos) (fBl (fLook2 o f g)) := by
  refine (pe_cmpR ho ha hb hm).to fun σ H Q ⟨ρ, Z, F, s, h⟩ => ?_
  exact look2 (op := o) (k := fun z ρ H Z F => ∀ v, Rp X.K X.mg H Z (.bl z) v → Q v H) (r := fun v w H2 => r v w H2 Q) (fun x y z v w H Z O ρ F e rx ry s k => hr x y z v w H Z O e rx ry Q (k _ rfl)) s ((Pst.bind h).imp fun z ρ' H' Z' F' _ s' k => k.here s')
theorem dt_cmp {op : CmpOp} {r : R2} {o : D → D → Option Bool} (ho : OpR X (compareOp op) r) (hr : ∀ x y z v w H Z O, o x y = some z → RpB X H Z O x v → RpB X H Z O y w → ∀ Q : VK, Q (.bl z) H → r v w H Q)
    (ha : DB X T ξ W a f) (hb : DB X T ξ W b g) (hm : behindInMarks op b = false) : DT X T ξ W (.Compare a [op] [b] pos) (fLook2 o f g) := by
  refine (pt_cmpR ho ha hb hm).to fun σ H Q ⟨ρ, Z, F, s, h⟩ => ?_
  exact look2 (op := o) (k := fun z ρ H Z F => Q z H) (r := fun v w H2 => r v w H2 fun x H' => ∃ k, x = .bl k ∧ Q k H') (fun x y z v w H Z O ρ F e rx ry s k => hr x y z v w H Z O e rx ry _ ⟨z, rfl, k⟩) s h
theorem rd_eq : ∀ x y z v w H Z O, oEq x y = some z → RpB X H Z O x v → RpB X H Z O y w → ∀ Q : VK, Q (.bl z) H → rEqD X.K v w H Q := fun x y z v w H Z O e rx ry Q q => by
  obtain ⟨⟨p1, s1⟩, ⟨p2, s2⟩, rfl⟩ := oEq_some e
  exact ⟨_, _, Rp.dp x v p1 rx, Rp.dp y w p2 ry, s1, s2, q⟩
theorem rd_ne : ∀ x y z v w H Z O, oNe x y = some z → RpB X H Z O x v → RpB X H Z O y w → ∀ Q : VK, Q (.bl z) H → rNeD X.K v w H Q := fun x y z v w H Z O e rx ry Q q => by
  obtain ⟨⟨p1, s1⟩, ⟨p2, s2⟩, rfl⟩ := oNe_some e
  exact ⟨_, _, Rp.dp x v p1 rx, Rp.dp y w p2 ry, s1, s2, q⟩
theorem de_eq (hu : X.A.units + 64 < cLine) (ha : DB X T ξ W a f) (hb : DB X T ξ W b g) : DE X T ξ W (.Compare a [.Eq] [b] pos) (fBl (fLook2 oEq f g)) := de_cmp (op_eqD hu) rd_eq ha hb (nomark _)
theorem dt_eq (hu : X.A.units + 64 < cLine) (ha : DB X T ξ W a f) (hb : DB X T ξ W b g) : DT X T ξ W (.Compare a [.Eq] [b] pos) (fLook2 oEq f g) := dt_cmp (op_eqD hu) rd_eq ha hb (nomark _)
theorem de_ne (hu : X.A.units + 64 < cLine) (ha : DB X T ξ W a f) (hb : DB X T ξ W b g) : DE X T ξ W (.Compare a [.NotEq] [b] pos) (fBl (fLook2 oNe f g)) := de_cmp (op_neD hu) rd_ne ha hb (nomark _)
theorem dt_ne (hu : X.A.units + 64 < cLine) (ha : DB X T ξ W a f) (hb : DB X T ξ W b g) : DT X T ξ W (.Compare a [.NotEq] [b] pos) (fLook2 oNe f g) := dt_cmp (op_neD hu) rd_ne ha hb (nomark _)
/-- whole numbers -/
@[simp] def oCI (c : Int → Int → Bool) : D → D → Option Bool
  | .int i, .int j => some (c i j)
  | _, _ => none
theorem oCI_some {c : Int → Int → Bool} {x y : D} {z : Bool} (h : oCI c x y = some z) : ∃ i j, x = .int i ∧ y = .int j ∧ z = c i j := by
  cases x <;> cases y <;> first
    | exact ⟨_, _, rfl, rfl, (Option.some.inj h).symm⟩
    | (cases h)
theorem rd_ci {c : Int → Int → Bool} : ∀ x y z v w H Z O, oCI c x y = some z → RpB X H Z O x v → RpB X H Z O y w → ∀ Q : VK, Q (.bl z) H → rI0 (fun i j => .bl (c i j)) v w H Q := fun x y z v w H Z O e rx ry Q q => by
  obtain ⟨i, j, rfl, rfl, rfl⟩ := oCI_some e
  exact ⟨i, j, rx, ry, q⟩
abbrev oLt := oCI fun i j => decide (i < j)
abbrev oLe := oCI fun i j => decide (i ≤ j)
abbrev oGt := oCI fun i j => decide (j < i)
abbrev oGe := oCI fun i j => decide (j ≤ i)
theorem de_lt (ha : DB X T ξ W a f) (hb : DB X T ξ W b g) : DE X T ξ W (.Compare a [.Lt] [b] pos) (fBl (fLook2 oLt f g)) := de_cmp op_lt rd_ci ha hb (nomark _)
theorem dt_lt (ha : DB X T ξ W a f) (hb : DB X T ξ W b g) : DT X T ξ W (.Compare a [.Lt] [b] pos) (fLook2 oLt f g) := dt_cmp op_lt rd_ci ha hb (nomark _)
theorem de_le (ha : DB X T ξ W a f) (hb : DB X T ξ W b g) : DE X T ξ W (.Compare a [.LtE] [b] pos) (fBl (fLook2 oLe f g)) := de_cmp op_le rd_ci ha hb (nomark _)
theorem dt_le (ha : DB X T ξ W a f) (hb : DB X T ξ W b g) : DT X T ξ W (.Compare a [.LtE] [b] pos) (fLook2 oLe f g) := dt_cmp op_le rd_ci ha hb (nomark _)
theorem de_gt (ha : DB X T ξ W a f) (hb : DB X T ξ W b g) : DE X T ξ W (.Compare a [.Gt] [b] pos) (fBl (fLook2 oGt f g)) := de_cmp op_gt rd_ci ha hb (nomark _)
theorem dt_gt (ha : DB X T ξ W a f) (hb : DB X T ξ W b g) : DT X T ξ W (.Compare a [.Gt] [b] pos) (fLook2 oGt f g) := dt_cmp op_gt rd_ci ha hb (nomark _)
theorem de_ge (ha : DB X T ξ W a f) (hb : DB X T ξ W b g) : DE X T ξ W (.Compare a [.GtE] [b] pos) (fBl (fLook2 oGe f g)) := de_cmp op_ge rd_ci ha hb (nomark _)
theorem dt_ge (ha : DB X T ξ W a f) (hb : DB X T ξ W b g) : DT X T ξ W (.Compare a [.GtE] [b] pos) (fLook2 oGe f g) := dt_cmp op_ge rd_ci ha hb (nomark _)
/-- is None, is not None; is True .. -/
@[simp] def D.isNon : D → Bool
  | .non => true
  | _ => false
theorem Rp.isNon {K : Frag} {mg : Str → Option Value} : ∀ {d : D} {v : V}, Rp K mg H Z d v → decide (v = .non) = d.isNon
  | .non, _, h => by cases (show _ = _ from h); rfl
  | .bl _, _, h => by cases (show _ = _ from h); rfl
  | .int _, _, h => by cases (show _ = _ from h); rfl
  | .str _, _, h => by cases (show _ = _ from h); rfl
  | .tup _, _, ⟨_, _, e, _⟩ => by subst e; rfl
  | .lst _, _, ⟨_, _, e, _⟩ => by subst e; rfl
  | .dic, _, ⟨_, e, _⟩ => by subst e; rfl
  | .fn _, _, ⟨_, e, _⟩ => by subst e; rfl
@[simp] def oIs (x y : D) : Option Bool := match x, y with
  | x, .non => some x.isNon
  | .bl a, .bl b => some (decide (a = b))
  | _, _ => none
@[simp] def oIsn (x y : D) : Option Bool := match x, y with
  | x, .non => some (!x.isNon)
  | .bl a, .bl b => some (!decide (a = b))
  | _, _ => none
theorem rd_is : ∀ x y z v w H Z O, oIs x y = some z → RpB X H Z O x v → RpB X H Z O y w → ∀ Q : VK, Q (.bl z) H → (fun x y H Q => (y = .non ∧ Q (.bl (decide (x = .non))) H) ∨ rIsB x y H Q) v w H Q := fun x y z v w H Z O e rx ry Q q => by
  cases y with
  | non =>
    refine .inl ⟨ry, ?_⟩
    rw [Rp.isNon rx]
    cases (show some x.isNon = some z by cases x <;> exact e)
    exact q
  | bl b =>
    cases x with
    | bl a =>
      refine .inr ⟨a, b, rx, ry, ?_⟩
      cases (show some (decide (a = b)) = some z from e)
      exact q
    | _ => cases (show none = some z from e)
  | _ => cases x <;> cases (show none = some z from e)
theorem rd_isn : ∀ x y z v w H Z O, oIsn x y = some z → RpB X H Z O x v → RpB X H Z O y w → ∀ Q : VK, Q (.bl z) H → (fun x y H Q => (y = .non ∧ Q (.bl (!decide (x = .non))) H) ∨ rNotB x y H Q) v w H Q := fun x y z v w H Z O e rx ry Q q => by
  cases y with
  | non =>
    refine .inl ⟨ry, ?_⟩
    rw [Rp.isNon rx]
    cases (show some (!x.isNon) = some z by cases x <;> exact e)
    exact q
  | bl b =>
    cases x with
    | bl a =>
      refine .inr ⟨a, b, rx, ry, ?_⟩
      cases (show some (!decide (a = b)) = some z from e)
      exact q
    | _ => cases (show none = some z from e)
  | _ => cases x <;> cases (show none = some z from e)
theorem de_is (ha : DB X T ξ W a f) (hb : DB X T ξ W b g) : DE X T ξ W (.Compare a [.Is] [b] pos) (fBl (fLook2 oIs f g)) := de_cmp (op_isN.or op_isBl) rd_is ha hb (nomark _)
theorem dt_is (ha : DB X T ξ W a f) (hb : DB X T ξ W b g) : DT X T ξ W (.Compare a [.Is] [b] pos) (fLook2 oIs f g) := dt_cmp (op_isN.or op_isBl) rd_is ha hb (nomark _)
theorem de_isn (ha : DB X T ξ W a f) (hb : DB X T ξ W b g) : DE X T ξ W (.Compare a [.IsNot] [b] pos) (fBl (fLook2 oIsn f g)) := de_cmp (op_notN.or op_notBl) rd_isn ha hb (nomark _)
theorem dt_isn (ha : DB X T ξ W a f) (hb : DB X T ξ W b g) : DT X T ξ W (.Compare a [.IsNot] [b] pos) (fLook2 oIsn f g) := dt_cmp (op_notN.or op_notBl) rd_isn ha hb (nomark _)
/-- x in xs, x not in xs -/
@[simp] def D.items : D → Option (List D)
  | .tup ds => some ds
  | .lst ds => some ds
  | _ => none
@[simp] def oIn (x y : D) : Option Bool := match y.items with
  | some ds => if x.okq && y.okq then some (ds.any fun e => eqD e x) else none
  | none => none
@[simp] def oNin (x y : D) : Option Bool := (oIn x y).map (!·)
def rInA (K : Frag) : R2 := fun x y H Q => ∃ d ds, Dp K H x d ∧ (Dp K H y (.list ds) ∨ Dp K H y (.tuple ds)) ∧ SeqAt.shaped d = true ∧ PyData.canLayAll0 ds = true ∧ Q (.bl (ds.any fun z => PyData.eqv z d)) H
def rNinA (K : Frag) : R2 := fun x y H Q => ∃ d ds, Dp K H x d ∧ (Dp K H y (.list ds) ∨ Dp K H y (.tuple ds)) ∧ SeqAt.shaped d = true ∧ PyData.canLayAll0 ds = true ∧ Q (.bl (!ds.any fun z => PyData.eqv z d)) H
theorem op_inA (hu : X.A.units + 65 < cLine) : OpR X (compareOp .In) (rInA X.K) := by
  intro pins s σ H x y v u Q I rx ry h
  obtain ⟨d, ds, hd, he, sd, se, q⟩ := h
  obtain ⟨as, r1⟩ := Dp.reads I d x v hd rx
  rcases he with he | he
  · obtain ⟨bs, r2⟩ := Dp.reads I (.list ds) y u he ry
    exact SeqAt.in_list_reads r2 r1 se (SeqAt.canLay_of_shaped sd) (room_in_shaped sd hu) ⟨.bl _, H, I, rfl, q⟩
  · obtain ⟨bs, r2⟩ := Dp.reads I (.tuple ds) y u he ry
    exact SeqAt.in_tuple_reads r2 r1 se (SeqAt.canLay_of_shaped sd) (room_in_shaped sd hu) ⟨.bl _, H, I, rfl, q⟩
theorem op_ninA (hu : X.A.units + 65 < cLine) : OpR X (compareOp .NotIn) (rNinA X.K) := by
  intro pins s σ H x y v u Q I rx ry h
  obtain ⟨d, ds, hd, he, sd, se, q⟩ := h
  obtain ⟨as, r1⟩ := Dp.reads I d x v hd rx
  rcases he with he | he
  · obtain ⟨bs, r2⟩ := Dp.reads I (.list ds) y u he ry
    exact SeqAt.notIn_list_reads r2 r1 se (SeqAt.canLay_of_shaped sd) (room_in_shaped sd hu) ⟨.bl _, H, I, rfl, q⟩
  · obtain ⟨bs, r2⟩ := Dp.reads I (.tuple ds) y u he ry
    exact SeqAt.notIn_tuple_reads r2 r1 se (SeqAt.canLay_of_shaped sd) (room_in_shaped sd hu) ⟨.bl _, H, I, rfl, q⟩
theorem any_py {x : D} (hx : x.pl = true) : ∀ ds : List D, plAll ds = true → (ds.any fun e => eqD e x) = (pys ds).any fun z => PyData.eqv z x.py
  | [], _ => rfl
  | d :: ds, h => by
    simp only [plAll, Bool.and_eq_true] at h
    simp only [List.any_cons, pys, eqD_py d x h.1 hx, any_py hx ds h.2]
theorem oIn_some {x y : D} {z : Bool} (h : oIn x y = some z) : ∃ ds, (y = .lst ds ∨ y = .tup ds) ∧ x.pl = true ∧ SeqAt.shaped x.py = true ∧ plAll ds = true ∧ PyData.canLayAll0 (pys ds) = true ∧ z = (pys ds).any fun e => PyData.eqv e x.py := by
  unfold oIn at h
  cases y with
  | lst ds =>
    by_cases c : (x.okq && (D.lst ds).okq) = true
    · simp only [D.items, if_pos c] at h
      simp only [D.okq, Bool.and_eq_true, D.pl, D.py] at c
      obtain ⟨⟨c1, c2⟩, c3, c4⟩ := c
      have c5 := SeqAt.canLay_of_shaped c4
      simp only [PyData.canLay0] at c5
      exact ⟨ds, .inl rfl, c1, c2, c3, c5, by rw [← any_py c1 ds c3]; exact (Option.some.inj h).symm⟩
    · simp only [D.items, if_neg c] at h; cases h
  | tup ds =>
    by_cases c : (x.okq && (D.tup ds).okq) = true
    · simp only [D.items, if_pos c] at h
      simp only [D.okq, Bool.and_eq_true, D.pl, D.py] at c
      obtain ⟨⟨c1, c2⟩, c3, c4⟩ := c
      have c5 := SeqAt.canLay_of_shaped c4
      simp only [PyData.canLay0] at c5
      exact ⟨ds, .inr rfl, c1, c2, c3, c5, by rw [← any_py c1 ds c3]; exact (Option.some.inj h).symm⟩
    · simp only [D.items, if_neg c] at h; cases h
  | _ => cases (show none = some z from h)
theorem rd_in : ∀ x y z v w H Z O, oIn x y = some z → RpB X H Z O x v → RpB X H Z O y w → ∀ Q : VK, Q (.bl z) H → rInA X.K v w H Q := fun x y z v w H Z O e rx ry Q q => by
  obtain ⟨ds, hy, p1, s1, p2, s2, rfl⟩ := oIn_some e
  refine ⟨_, pys ds, Rp.dp x v p1 rx, ?_, s1, s2, q⟩
  rcases hy with rfl | rfl
  · exact .inl (Rp.dp (.lst ds) w (by simpa only [D.pl] using p2) ry)
  · exact .inr (Rp.dp (.tup ds) w (by simpa only [D.pl] using p2) ry)
theorem rd_nin : ∀ x y z v w H Z O, oNin x y = some z → RpB X H Z O x v → RpB X H Z O y w → ∀ Q : VK, Q (.bl z) H → rNinA X.K v w H Q := fun x y z v w H Z O e rx ry Q q => by
  unfold oNin at e
  cases c : oIn x y with
  | none => rw [c] at e; cases e
  | some z' =>
    rw [c] at e
    cases (show some (!z') = some z from e)
    obtain ⟨ds, hy, p1, s1, p2, s2, rfl⟩ := oIn_some c
    refine ⟨_, pys ds, Rp.dp x v p1 rx, ?_, s1, s2, q⟩
    rcases hy with rfl | rfl
    · exact .inl (Rp.dp (.lst ds) w (by simpa only [D.pl] using p2) ry)
    · exact .inr (Rp.dp (.tup ds) w (by simpa only [D.pl] using p2) ry)
theorem de_in (hu : X.A.units + 65 < cLine) (ha : DB X T ξ W a f) (hb : DB X T ξ W b g) (hm : behindInMarks .In b = false := by rfl) : DE X T ξ W (.Compare a [.In] [b] pos) (fBl (fLook2 oIn f g)) := de_cmp (op_inA hu) rd_in ha hb hm
theorem dt_in (hu : X.A.units + 65 < cLine) (ha : DB X T ξ W a f) (hb : DB X T ξ W b g) (hm : behindInMarks .In b = false := by rfl) : DT X T ξ W (.Compare a [.In] [b] pos) (fLook2 oIn f g) := dt_cmp (op_inA hu) rd_in ha hb hm
theorem de_nin (hu : X.A.units + 65 < cLine) (ha : DB X T ξ W a f) (hb : DB X T ξ W b g) (hm : behindInMarks .NotIn b = false := by rfl) : DE X T ξ W (.Compare a [.NotIn] [b] pos) (fBl (fLook2 oNin f g)) := de_cmp (op_ninA hu) rd_nin ha hb hm
theorem dt_nin (hu : X.A.units + 65 < cLine) (ha : DB X T ξ W a f) (hb : DB X T ξ W b g) (hm : behindInMarks .NotIn b = false := by rfl) : DT X T ξ W (.Compare a [.NotIn] [b] pos) (fLook2 oNin f g) := dt_cmp (op_ninA hu) rd_nin ha hb hm
end
end
end Dt
namespace Dt
open PySem PySem.Spec PyProof.Rows L2
section
variable {X : Cx} {T : Tab} {ξ : Xi} {W : WX} {σ : L2.St} {ρ : Ro} {H H' : Hp} {Z Z' : Z1} {F : F1}

/-! ### 9. tests -/
section
variable {a b c : Expr} {pos : Pos} {f g : Fr Bool} {e : Fr D} {rest : List Expr}
@[simp] def fTb (e : Fr D) : Fr Bool := fun ρ => (e ρ).bind fun d ρ' => match d with
  | .bl b => .ok b ρ'
  | _ => .st
/-- an expression that gives a truth value, as a test -/
theorem dt_val (h : DE X T ξ W a e) (he : ∀ whole, isTrue a X.env whole = (do let v ← whole; standAt a.pos; holding [v] (truthy v)) := by intro _; rfl) : DT X T ξ W a (fTb e) := by
  refine (pt_val h he).to fun σ H Q ⟨ρ, Z, F, s, h⟩ => ⟨ρ, Z, F, s, (Pst.bind h).imp fun d ρ' H' Z' F' _ s' k v rv => ?_⟩
  cases d with
  | bl b => exact ⟨b, rv, k.here s'⟩
  | _ => exact k.elim
/-- .. by its truth -/
@[simp] def D.tru : D → Option Bool
  | .non => some false
  | .bl b => some b
  | .int i => some (i != 0)
  | .tup ds => some (!ds.isEmpty)
  | .lst ds => some (!ds.isEmpty)
  | _ => none
@[simp] def fTru (e : Fr Hd) : Fr Bool := fun ρ => (e ρ).bind fun h ρ' => match h.look ρ' with
  | some d => match d.tru with
    | some b => .ok b ρ'
    | none => .st
  | none => .st
theorem RpL.emp {K : Frag} {mg : Str → Option Value} {ds : List D} {vs : List V} (r : RpL K mg H Z ds vs) : (!vs.isEmpty) = !ds.isEmpty := by
  have := r.length
  cases ds <;> cases vs <;> first | rfl | (simp at this)
theorem dt_tru {e : Fr Hd} (h : DB X T ξ W a e) (he : ∀ whole, isTrue a X.env whole = (do let v ← whole; standAt a.pos; holding [v] (truthy v)) := by intro _; rfl) : DT X T ξ W a (fTru e) := by
  refine (pt_truth h he).to fun σ H Q ⟨ρ, Z, F, s, h⟩ => ⟨ρ, Z, F, s, (Pst.bind h).imp fun hd ρ' H' Z' F' _ s' k v rv => ?_⟩
  cases l : hd.look ρ' with
  | none => simp only [l] at k; exact k.elim
  | some d =>
    simp only [l] at k
    have r := s'.look rv l
    cases d with
    | non => cases (show _ = _ from r); exact ⟨false, rfl, k.here s'⟩
    | bl b => cases (show _ = _ from r); exact ⟨b, rfl, k.here s'⟩
    | int i => cases (show _ = _ from r); exact ⟨_, rfl, k.here s'⟩
    | tup ds =>
      obtain ⟨p, vs, e1, t, r, _⟩ := r
      subst e1
      exact ⟨_, .inr (.inl ⟨vs, t.sq, r.emp.symm⟩), k.here s'⟩
    | lst ds =>
      obtain ⟨p, vs, e1, t, r, _⟩ := r
      subst e1
      exact ⟨_, .inl ⟨vs, t.sq, r.emp.symm⟩, k.here s'⟩
    | _ => exact k.elim
@[simp] def fNot (f : Fr Bool) : Fr Bool := fun ρ => (f ρ).bind fun b ρ' => .ok (!b) ρ'
theorem dt_not (h : DT X T ξ W a f) : DT X T ξ W (.UnaryOp .Not a pos) (fNot f) := by
  refine (pt_not h).to fun σ H Q ⟨ρ, Z, F, s, h⟩ => ⟨ρ, Z, F, s, (Pst.bind h).imp fun b ρ' H' Z' F' _ s' k => k.here s'⟩
@[simp] def fAnd (f g : Fr Bool) : Fr Bool := fun ρ => (f ρ).bind fun b ρ' => if b = true then g ρ' else .ok false ρ'
@[simp] def fOr (f g : Fr Bool) : Fr Bool := fun ρ => (f ρ).bind fun b ρ' => if b = true then .ok true ρ' else g ρ'
abbrev DW (X : Cx) (T : Tab) (ξ : Xi) (W : WX) (e : Expr) (f : Fr Bool) : Prop := PW X e (tDT X T ξ W f)
theorem _root_.L2.PW.to {X : Cx} {e : Expr} {t t' : TT} (h : PW X e t) (f : ∀ σ H Q, t' σ H Q → t σ H Q) : PW X e t' := ⟨fun wh pins s σ H Q I q => h.run wh pins s σ H Q I (f σ H Q q)⟩
theorem dw_and1 (h : DT X T ξ W a f) : DW X T ξ W (.BoolOp .And [a] pos) f := pw_and1 h
theorem dw_or1 (h : DT X T ξ W a f) : DW X T ξ W (.BoolOp .Or [a] pos) f := pw_or1 h
theorem dw_and (ha : DT X T ξ W a f) (hb : DW X T ξ W (.BoolOp .And (b :: rest) pos) g) : DW X T ξ W (.BoolOp .And (a :: b :: rest) pos) (fAnd f g) := by
  refine (pw_and ha hb).to fun σ H Q ⟨ρ, Z, F, s, h⟩ => ⟨ρ, Z, F, s, (Pst.bind h).imp fun b ρ' H' Z' F' _ s' k => ?_⟩
  cases b with
  | true => exact ⟨ρ', Z', F', s', k⟩
  | false => exact k.here s'
theorem dw_or (ha : DT X T ξ W a f) (hb : DW X T ξ W (.BoolOp .Or (b :: rest) pos) g) : DW X T ξ W (.BoolOp .Or (a :: b :: rest) pos) (fOr f g) := by
  refine (pw_or ha hb).to fun σ H Q ⟨ρ, Z, F, s, h⟩ => ⟨ρ, Z, F, s, (Pst.bind h).imp fun b ρ' H' Z' F' _ s' k => ?_⟩
  cases b with
  | true => exact k.here s'
  | false => exact ⟨ρ', Z', F', s', k⟩
theorem dt_w (h : DW X T ξ W a f) : DT X T ξ W a f := PW.pt h
/-- as values -/
@[simp] def fAndV (f g : Fr D) : Fr D := fun ρ => (f ρ).bind fun d ρ' => match d with
  | .bl b => if b = true then g ρ' else .ok (.bl false) ρ'
  | _ => .st
@[simp] def fOrV (f g : Fr D) : Fr D := fun ρ => (f ρ).bind fun d ρ' => match d with
  | .bl b => if b = true then .ok (.bl true) ρ' else g ρ'
  | _ => .st
@[simp] def fNotV (f : Fr D) : Fr D := fun ρ => (f ρ).bind fun d ρ' => match d with
  | .bl b => .ok (.bl (!b)) ρ'
  | _ => .st
variable {f' g' : Fr D}
theorem de_one {op} (h : DE X T ξ W a f') : DE X T ξ W (.BoolOp op [a] pos) f' := pe_one h
theorem de_and (ha : DE X T ξ W a f') (hb : DE X T ξ W (.BoolOp .And (b :: rest) pos) g') : DE X T ξ W (.BoolOp .And (a :: b :: rest) pos) (fAndV f' g') := by
  refine (pe_and ha hb).to fun σ H Q ⟨ρ, Z, F, s, h⟩ => ⟨ρ, Z, F, s, (Pst.bind h).imp fun d ρ' H' Z' F' _ s' k v rv => ?_⟩
  cases d with
  | bl b =>
    refine ⟨b, rv, ?_⟩
    cases b with
    | true => exact ⟨ρ', Z', F', s', k⟩
    | false => exact k.here s' _ rfl
  | _ => exact k.elim
theorem de_or (ha : DE X T ξ W a f') (hb : DE X T ξ W (.BoolOp .Or (b :: rest) pos) g') : DE X T ξ W (.BoolOp .Or (a :: b :: rest) pos) (fOrV f' g') := by
  refine (pe_or ha hb).to fun σ H Q ⟨ρ, Z, F, s, h⟩ => ⟨ρ, Z, F, s, (Pst.bind h).imp fun d ρ' H' Z' F' _ s' k v rv => ?_⟩
  cases d with
  | bl b =>
    refine ⟨b, rv, ?_⟩
    cases b with
    | true => exact k.here s' _ rfl
    | false => exact ⟨ρ', Z', F', s', k⟩
  | _ => exact k.elim
theorem de_not (ha : DE X T ξ W a f') : DE X T ξ W (.UnaryOp .Not a pos) (fNotV f') := by
  refine (pe_not ha).to fun σ H Q ⟨ρ, Z, F, s, h⟩ => ⟨ρ, Z, F, s, (Pst.bind h).imp fun d ρ' H' Z' F' _ s' k v rv => ?_⟩
  cases d with
  | bl b => exact ⟨b, rv, k.here s' _ rfl⟩
  | _ => exact k.elim
@[simp] def fIf {α : Type} (t : Fr Bool) (f g : Fr α) : Fr α := fun ρ => (t ρ).bind fun b ρ' => if b = true then f ρ' else g ρ'
theorem de_if {t : Fr Bool} (hc : DT X T ξ W c t) (ha : DE X T ξ W a f') (hb : DE X T ξ W b g') : DE X T ξ W (.IfExp c a b pos) (fIf t f' g') := by
  refine (pe_ifExp hc ha hb).to fun σ H Q ⟨ρ, Z, F, s, h⟩ => ⟨ρ, Z, F, s, (Pst.bind h).imp fun b ρ' H' Z' F' _ s' k => ?_⟩
  cases b with
  | true => exact ⟨ρ', Z', F', s', k⟩
  | false => exact ⟨ρ', Z', F', s', k⟩
/-- -x -/
@[simp] def oNeg : D → Option D
  | .int i => some (.int (-i))
  | _ => none
@[simp] def fUn (o : D → Option D) (f : Fr D) : Fr D := fun ρ => (f ρ).bind fun d ρ' => match o d with
  | some z => .ok z ρ'
  | none => .st
theorem de_neg (ha : DE X T ξ W a f') : DE X T ξ W (.UnaryOp .USub a pos) (fUn oNeg f') := by
  refine (pe_un un_neg ha).to fun σ H Q ⟨ρ, Z, F, s, h⟩ => ⟨ρ, Z, F, s, (Pst.bind h).imp fun d ρ' H' Z' F' _ s' k v rv => ?_⟩
  cases d with
  | int i => exact ⟨i, rv, k.here s' _ rfl⟩
  | _ => exact k.elim
end

/-! ### 10. a < b <= c -/
section
variable {a b c : Expr} {pos : Pos} {f g h : Fr D}
@[simp] def fChain (c c' : Int → Int → Bool) (f g h : Fr D) : Fr Bool := fun ρ => (f ρ).bind fun x ρ1 => (g ρ1).bind fun y ρ2 => match x, y with
  | .int i, .int j => if c i j = true then (h ρ2).bind fun z ρ3 => match z with
      | .int k => .ok (c' j k) ρ3
      | _ => .st
    else .ok false ρ2
  | _, _ => .st
theorem chain_core {c c' : Int → Int → Bool} {σ : L2.St} {H : Hp} {Z : Z1} {F : F1} {k : Bool → Ro → Hp → Z1 → F1 → Prop} {R : Bool → Hp → Prop} (s : Sta X.K X.mg T ξ H Z F σ ρ) (hp : Pst X T ξ W σ (fChain c c' f g h ρ) k H Z F)
    (hk : ∀ b ρ H Z F, Sta X.K X.mg T ξ H Z F σ ρ → k b ρ H Z F → R b H) :
    tDE X T ξ W f σ H fun x H1 => tDE X T ξ W g σ H1 fun y H2 => ∃ i j, x = .int i ∧ y = .int j ∧ ∃ q, V.bl (c i j) = .bl q ∧ if q = true then tDE X T ξ W h σ H2 (fun w H4 => ∃ i' j', y = .int i' ∧ w = .int j' ∧ R (c' i' j') H4) else R false H2 := by
  refine ⟨ρ, Z, F, s, (Pst.bind hp).imp fun x ρ1 H1 Z1 F1 e1 s1 q1 v rv => ⟨ρ1, Z1, F1, s1, (Pst.bind q1).imp fun y ρ2 H2 Z2 F2 e2 s2 q2 w rw' => ?_⟩⟩
  cases x with
  | int i =>
    cases y with
    | int j =>
      cases (show v = _ from rv)
      cases (show w = _ from rw')
      refine ⟨i, j, rfl, rfl, _, rfl, ?_⟩
      cases e : c i j with
      | true =>
        simp only [e, if_true] at q2 ⊢
        refine ⟨ρ2, Z2, F2, s2, (Pst.bind q2).imp fun z ρ3 H3 Z3 F3 e3 s3 q3 u ru => ?_⟩
        cases z with
        | int k' =>
          cases (show u = _ from ru)
          exact ⟨j, k', rfl, rfl, hk _ _ _ _ _ s3 (q3.here s3)⟩
        | _ => exact q3.elim
      | false =>
        simp only [e] at q2 ⊢
        exact hk _ _ _ _ _ s2 (q2.here s2)
    | _ => exact q2.elim
  | _ => exact q2.elim
theorem de_chain {op op' : CmpOp} {p p' : Int → Int → Bool} (ho : OpR X (compareOp op) (rI0 fun i j => .bl (p i j))) (ho' : OpR X (compareOp op') (rI0 fun i j => .bl (p' i j))) (ha : DE X T ξ W a f) (hb : DE X T ξ W b g) (hc : DE X T ξ W c h)
    (hm : lastMarks [op, op'] [b, c] = false := by with_unfolding_all rfl) : DE X T ξ W (.Compare a [op, op'] [b, c] pos) (fBl (fChain p p' f g h)) := by
  refine (pe_chain ho ho' ha hb hc hm).to fun σ H Q ⟨ρ, Z, F, s, h⟩ => ?_
  exact chain_core (R := fun b H => Q (.bl b) H) (k := fun z ρ H Z F => ∀ v, Rp X.K X.mg H Z (.bl z) v → Q v H) s ((Pst.bind h).imp fun z ρ' H' Z' F' _ s' k => k.here s') fun b ρ H Z F _ k => k _ rfl
theorem dt_chain {op op' : CmpOp} {p p' : Int → Int → Bool} (ho : OpR X (compareOp op) (rI0 fun i j => .bl (p i j))) (ho' : OpR X (compareOp op') (rI0 fun i j => .bl (p' i j))) (ha : DE X T ξ W a f) (hb : DE X T ξ W b g) (hc : DE X T ξ W c h)
    (hm : lastMarks [op, op'] [b, c] = false := by with_unfolding_all rfl) : DT X T ξ W (.Compare a [op, op'] [b, c] pos) (fChain p p' f g h) := by
  refine (pt_chain ho ho' ha hb hc hm).to fun σ H Q ⟨ρ, Z, F, s, h⟩ => ?_
  exact chain_core (R := fun b H => ∃ k, V.bl b = .bl k ∧ Q k H) (k := fun z ρ H Z F => Q z H) s h fun b ρ H Z F _ k => ⟨b, rfl, k⟩
end

/-! ### 11. items, lengths, cuts -/
/-- the items of what stands there, if none of them is owned -/
@[simp] def Hd.items (ρ : Ro) : Hd → Option (List D)
  | .val d => d.items
  | .at i => match ρ.getD i .no with
    | .dat d => d.items
    | .ol ds => some ds
    | _ => none
theorem Rp.items {d : D} {ds : List D} {v : V} (r : Rp X.K X.mg H Z d v) (e : d.items = some ds) : ∃ p vs, v = .ref p ∧ (H p = some (.lst vs) ∨ SqT X.K H p vs) ∧ RpL X.K X.mg H Z ds vs ∧ ds.length ≤ sizeLine := by
  cases d with
  | tup es =>
    cases e
    obtain ⟨p, vs, e1, t, r, n⟩ := r
    exact ⟨p, vs, e1, .inr t.sq, r, n⟩
  | lst es =>
    cases e
    obtain ⟨p, vs, e1, t, r, n⟩ := r
    exact ⟨p, vs, e1, .inl t.2, r, n⟩
  | _ => cases e
theorem Sta.items (s : Sta X.K X.mg T ξ H Z F σ ρ) {h : Hd} {ds : List D} {v : V} (r : HdR X H Z σ v h) (e : h.items ρ = some ds) :
    ∃ p vs, v = .ref p ∧ (H p = some (.lst vs) ∨ SqT X.K H p vs) ∧ RpL X.K X.mg H Z ds vs ∧ ds.length ≤ sizeLine := by
  cases h with
  | val d => exact Rp.items r e
  | «at» i =>
    have r' : σ.getD i none = some v := some_getD r
    have q := s.rep i
    rw [r'] at q
    cases ee : ρ.getD i .no with
    | dat d =>
      simp only [Hd.items, ee] at e
      rw [ee] at q
      obtain ⟨⟨u, e1, r1⟩, _⟩ := q
      cases e1
      exact Rp.items r1 e
    | ol es =>
      simp only [Hd.items, ee] at e
      rw [ee] at q
      cases e
      obtain ⟨p, vs, e1, e2, r1, n, ip⟩ := q
      cases e1
      exact ⟨p, vs, rfl, .inl e2, r1, n⟩
    | _ => simp only [Hd.items, ee] at e; cases e
@[simp] def fItems {α : Type} (f : Fr Hd) (k : List D → Ro → Res α) : Fr α := fun ρ => (f ρ).bind fun h ρ' => match h.items ρ' with
  | some ds => k ds ρ'
  | none => .st
section
variable {a b c : Expr} {pos : Pos} {f : Fr Hd} {g : Fr D}
/-- xs[i] -/
@[simp] def fIx (f : Fr Hd) (g : Fr D) : Fr D := fun ρ => (f ρ).bind fun h ρ1 => (g ρ1).bind fun i ρ2 => match h.items ρ2, i with
  | some ds, .int i => match atI ds i with
    | some d => .ok d ρ2
    | none => .st
  | _, _ => .st
theorem RpL.atI {K : Frag} {mg : Str → Option Value} {ds : List D} {vs : List V} {i : Int} {d : D} (r : RpL K mg H Z ds vs) (e : L2.atI ds i = some d) : ∃ v, L2.atI vs i = some v ∧ Rp K mg H Z d v := by
  unfold L2.atI at e ⊢
  rw [r.length]
  cases q : ixN ds.length i with
  | none => rw [q] at e; cases e
  | some j =>
    rw [q] at e
    exact r.get (by simpa using e)
theorem de_ix (ha : DB X T ξ W a f) (hb : DE X T ξ W b g) (hs : PlainIx b := by intro _ _; rfl) : DE X T ξ W (.Subscript a b pos) (fIx f g) := by
  refine (pe_ix (ix_list.or ix_tup) ha hb hs).to fun σ H Q ⟨ρ, Z, F, s, h⟩ => ⟨ρ, Z, F, s, ?_⟩
  refine (Pst.bind h).imp fun h1 ρ1 H1 Z1 F1 e1 s1 q1 v rv => ⟨ρ1, Z1, F1, s1, (Pst.bind q1).imp fun i ρ2 H2 Z2 F2 e2 s2 q2 w rw' => ?_⟩
  have rv' := rv.ext s1 e2
  cases l : h1.items ρ2 with
  | none => simp only [l] at q2; exact q2.elim
  | some ds =>
    cases i with
    | int i =>
      simp only [l] at q2
      cases e : L2.atI ds i with
      | none => simp only [e] at q2; exact q2.elim
      | some d =>
        simp only [e] at q2
        obtain ⟨p, vs, rfl, o, r, _⟩ := s2.items rv' l
        obtain ⟨u, hu, ru⟩ := r.atI e
        cases (show w = _ from rw')
        rcases o with o | o
        · exact .inl ⟨p, vs, i, u, rfl, rfl, .of o, hu, q2.here s2 u ru⟩
        · exact .inr ⟨p, vs, i, u, rfl, rfl, o, hu, q2.here s2 u ru⟩
    | _ => simp only [l] at q2; exact q2.elim
/-- xs[i][y], xs rows that are owned, y a name -/
@[simp] def fIxM (m : Nat) (f : Fr D) (j : Nat) : Fr D := fun ρ => match ρ.getD m .no with
  | .om _ => (f ρ).bind fun i ρ1 => match ρ1.getD m .no, i, ρ1.getD j .no with
    | .om dss, .int i, .dat (.int k) => match (L2.atI dss i).bind fun ds => L2.atI ds k with
      | some d => .ok d ρ1
      | none => .st
    | _, _, _ => .st
  | _ => .st
theorem RpM.get {K : Frag} {mg : Str → Option Value} : ∀ {dss : List (List D)} {qs : List Addr} {i : Nat} {ds : List D}, RpM K mg H Z dss qs → dss[i]? = some ds → ∃ q vs, qs[i]? = some q ∧ H q = some (.lst vs) ∧ RpL K mg H Z ds vs ∧ ds.length ≤ sizeLine
  | [], _, _, _, _, h => by simp at h
  | _ :: _, _, 0, _, ⟨q, _, vs, e, h1, h2, hn, _⟩, h => by
    subst e
    simp at h
    subst h
    exact ⟨q, vs, rfl, h1, h2, hn⟩
  | _ :: dss, _, i + 1, ds, ⟨_, qs', _, e, _, _, _, r⟩, h => by
    subst e
    obtain ⟨q, vs, h1, h2⟩ := RpM.get (i := i) (ds := ds) r (by simpa using h)
    exact ⟨q, vs, by simpa using h1, h2⟩
theorem RpM.length {K : Frag} {mg : Str → Option Value} : ∀ {dss : List (List D)} {qs : List Addr}, RpM K mg H Z dss qs → qs.length = dss.length
  | [], _, h => by cases h; rfl
  | _ :: _, _, ⟨_, _, _, e, _, _, _, r⟩ => by subst e; simp [RpM.length r]
theorem atI_map {α β : Type} {xs : List α} {ys : List β} (hl : ys.length = xs.length) {i : Int} {x : α} (h : L2.atI xs i = some x) : ∃ j y, ixN xs.length i = some j ∧ xs[j]? = some x ∧ ys[j]? = some y ∧ L2.atI ys i = some y := by
  unfold L2.atI at h ⊢
  rw [hl]
  cases q : ixN xs.length i with
  | none => rw [q] at h; cases h
  | some j =>
    rw [q] at h
    have h' : xs[j]? = some x := by simpa using h
    obtain ⟨hj, _⟩ := List.getElem?_eq_some_iff.mp h'
    exact ⟨j, ys[j]'(by omega), rfl, h', List.getElem?_eq_getElem (by omega), by simp [List.getElem?_eq_getElem (show j < ys.length by omega)]⟩
theorem de_ixM (m j : Nat) {x y : Str} {p1 p2 p3 : Pos} {f : Fr D} (ha : DE X T ξ W a f) (hN : X.N[m]? = some x := by rfl) (hv : Vis X.env.scope x := by first | exact Or.inl rfl | exact Or.inr (Or.inl rfl) | exact Or.inr (Or.inr rfl))
    (hN2 : X.N[j]? = some y := by rfl) (hv2 : Vis X.env.scope y := by first | exact Or.inl rfl | exact Or.inr (Or.inl rfl) | exact Or.inr (Or.inr rfl)) (hd : (x == ("__debug__" : Str)) = false := by decide) (hcd : (x == ("__classdict__" : Str)) = false := by decide)
    (hd2 : (y == ("__debug__" : Str)) = false := by decide) (hcd2 : (y == ("__classdict__" : Str)) = false := by decide) (hs : PlainIx a := by intro _ _; rfl) (hs2 : PlainIx (.Name y p3) := by intro _ _; rfl) : DE X T ξ W (.Subscript (.Subscript (.Name x p1) a p2) (.Name y p3) pos) (fIxM m f j) := by
  refine (pe_ix ix_list (pe_ix ix_list (pe_var (i := m) hN hv hd hcd) ha hs) (pe_var (i := j) hN2 hv2 hd2 hcd2) hs2).to fun σ H Q ⟨ρ, Z, F, s, h⟩ => ?_
  have r0 := s.rep m
  unfold fIxM at h
  cases e0 : ρ.getD m .no with
  | om dss0 =>
    rw [e0] at r0
    simp only [e0] at h
    obtain ⟨p0, _, ev, _⟩ := r0
    refine ⟨.ref p0, getD_some ev, ρ, Z, F, s, (Pst.bind h).imp fun i ρ1 H1 Z1 F1 e1 s1 q1 v rv => ?_⟩
    have r1 := s1.rep m
    have rj := s1.rep j
    cases e2 : ρ1.getD m .no with
    | om dss =>
      cases i with
      | int i =>
        cases e3 : ρ1.getD j .no with
        | dat d =>
          cases d with
          | int k =>
            simp only [e2, e3] at q1
            rw [e2] at r1
            rw [e3] at rj
            cases e4 : L2.atI dss i with
            | none => simp only [e4, Option.bind_none] at q1; exact q1.elim
            | some ds =>
              cases e5 : L2.atI ds k with
              | none => simp only [e4, Option.bind_some, e5] at q1; exact q1.elim
              | some d =>
                simp only [e4, Option.bind_some, e5] at q1
                obtain ⟨p, qs, ev', hp, _, _, hm, _, _⟩ := r1
                rw [ev] at ev'
                cases ev'
                obtain ⟨n, qr, _, hn, hq, hat⟩ := atI_map (ys := qs.map V.ref) (by rw [List.length_map]; exact hm.length) e4
                obtain ⟨q, vs, h1, h2, h3, _⟩ := hm.get hn
                obtain rfl : V.ref q = qr := by simpa [List.getElem?_map, h1] using hq
                obtain ⟨⟨w, ew, rw'⟩, _⟩ := rj
                cases (show w = _ from rw')
                obtain ⟨u, hu, ru⟩ := h3.atI e5
                cases (show v = _ from rv)
                exact ⟨p0, _, i, .ref q, rfl, rfl, .of hp, hat, _, getD_some ew, q, vs, k, u, rfl, rfl, .of h2, hu, q1.here s1 u ru⟩
          | _ => simp only [e2, e3] at q1; exact q1.elim
        | _ => simp only [e2, e3] at q1; exact q1.elim
      | _ => simp only [e2] at q1; exact q1.elim
    | _ => simp only [e2] at q1; exact q1.elim
  | _ => simp only [e0] at h; exact h.elim
end
/-! ### 12. built-ins of one thing that is looked at -/
section
variable {a b c : Expr} {pos p : Pos} {f g : Fr Hd} {h : Fr D}
/-- len(x) -/
@[simp] def fLen (f : Fr Hd) : Fr D := fun ρ => (f ρ).bind fun h ρ' => match h.items ρ' with
  | some ds => .ok (.int ds.length) ρ'
  | none => match h.look ρ' with
    | some (.lst ds) => .ok (.int ds.length) ρ'
    | some (.str x) => if x.length ≤ 100000 then .ok (.int x.length) ρ' else .st
    | _ => .st
theorem de_len (hg : Gl X "len") (hm : X.mg "len" = none) (ha : DB X T ξ W a f) (he : starEach [a] X.env = (false, eval a X.env) :: starEach [] X.env := by rfl) : DE X T ξ W (.Call (.Name "len" p) [a] [] pos) (fLen f) := by
  refine (pe_callB call_len hg hm PySem.boot_len (pa_cons ha pa_nil he) (by decide) (by decide) he).to fun σ H Q ⟨ρ, Z, F, s, h⟩ => ⟨ρ, Z, F, s, (Pst.bind h).imp fun hd ρ' H' Z' F' _ s' k v rv => ?_⟩
  show ∃ x n, [v] = [x] ∧ LenV X.K x H' n ∧ Q (.int n) H'
  cases l : hd.items ρ' with
  | some ds =>
    simp only [l] at k
    obtain ⟨q, vs, rfl, o, r, _⟩ := s'.items rv l
    refine ⟨_, ds.length, rfl, ?_, k.here s' _ rfl⟩
    rcases o with o | o
    · exact .inl ⟨vs, .of o, r.length.symm⟩
    · exact .inr ⟨vs, o, r.length.symm⟩
  | none =>
    simp only [l] at k
    cases l2 : hd.look ρ' with
    | none => simp only [l2] at k; exact k.elim
    | some d =>
      have r := s'.look rv l2
      cases d with
      | lst ds =>
        simp only [l2] at k
        obtain ⟨q, vs, rfl, t, r, _⟩ := r
        exact ⟨_, ds.length, rfl, .inl ⟨vs, t.sq, r.length.symm⟩, k.here s' _ rfl⟩
      | str x =>
        simp only [l2] at k
        by_cases c : x.length ≤ 100000
        · rw [if_pos c] at k
          cases (show v = _ from r)
          exact ⟨_, x.length, rfl, ⟨by rw [sizeLine_eq]; omega, rfl⟩, k.here s' _ rfl⟩
        · rw [if_neg c] at k; exact k.elim
      | _ => simp only [l2] at k; exact k.elim
/-- list(x): a new list -/
@[simp] def fList (f : Fr Hd) : Fr (List D) := fItems f fun ds ρ => .ok ds ρ
theorem boot_list' : bootBuiltins "list" = some (.type "list") := by decide +kernel
theorem boot_tuple' : bootBuiltins "tuple" = some (.type "tuple") := by decide +kernel
theorem dn_list (hg : Gl X "list") (hm : X.mg "list" = none) (ha : DB X T ξ W a f) (he : starEach [a] X.env = (false, eval a X.env) :: starEach [] X.env := by rfl) : DN X T ξ W (.Call (.Name "list" p) [a] [] pos) (fList f) := by
  refine (pe_callTy call_list_of hg hm boot_list' (pa_cons ha pa_nil he) (by decide) (by decide) he).to fun σ H Q ⟨ρ, Z, F, s, h⟩ => ⟨ρ, Z, F, s, (Pst.bind h).imp fun hd ρ' H' Z' F' _ s' k v rv => ?_⟩
  cases l : hd.items ρ' with
  | none => simp only [l] at k; exact k.elim
  | some ds =>
    simp only [l] at k
    obtain ⟨q, vs, rfl, o, r, n⟩ := s'.items rv l
    refine ⟨q, vs, rfl, o.imp .of id, fun p hp => ?_⟩
    exact k.here s' p vs _ upd_same upd_other hp r n
/-- tuple(x) -/
@[simp] def fTuple (f : Fr Hd) : Fr D := fItems f fun ds ρ => .ok (.tup ds) ρ
theorem de_tuple (hg : Gl X "tuple") (hm : X.mg "tuple" = none) (ha : DB X T ξ W a f) (he : starEach [a] X.env = (false, eval a X.env) :: starEach [] X.env := by rfl) : DE X T ξ W (.Call (.Name "tuple" p) [a] [] pos) (fTuple f) := by
  refine (pe_callTy call_tuple_of hg hm boot_tuple' (pa_cons ha pa_nil he) (by decide) (by decide) he).to fun σ H Q ⟨ρ, Z, F, s, h⟩ => ⟨ρ, Z, F, s, (Pst.bind h).imp fun hd ρ' H' Z' F' _ s' k v rv => ?_⟩
  cases l : hd.items ρ' with
  | none => simp only [l] at k; exact k.elim
  | some ds =>
    simp only [l] at k
    show ∃ p ys, [v] = [.ref p] ∧ ((SqL X.K H' p ys ∧ ∀ l, H' l = none → Q (.ref l) (upd H' l (.tup ys))) ∨ (SqT X.K H' p ys ∧ Q (.ref p) H'))
    have tupOf : ∀ {q vs}, SqT X.K H' q vs → RpL X.K X.mg H' Z' ds vs → ds.length ≤ sizeLine → hd.items ρ' = some ds → HdR X H' Z' σ (.ref q) hd → Rp X.K X.mg H' Z' (.tup ds) (.ref q) ∨ H' q = some (.lst vs) := fun {q vs} o r n l rv => by
      cases hd with
      | val d =>
        cases d with
        | tup es => cases (show some es = some ds from l); exact .inl rv
        | lst es =>
          cases (show some es = some ds from l)
          obtain ⟨p1, v1, e1, t1, r1, _⟩ := rv
          cases e1
          have : SqT X.K H' q vs := o
          rcases this with (h1 | ⟨ob, h1⟩) | h1
          · rw [t1.2] at h1; cases h1
          · rw [t1.2] at h1; cases h1
          · exact .inl ⟨q, vs, rfl, .inr h1, r, n⟩
        | _ => cases (show none = some ds from l)
      | «at» i =>
        have r' : σ.getD i none = some (.ref q) := some_getD rv
        have qq := s'.rep i
        rw [r'] at qq
        cases ee : ρ'.getD i .no with
        | dat d =>
          simp only [Hd.items, ee] at l
          rw [ee] at qq
          obtain ⟨⟨u, e1, r1⟩, _⟩ := qq
          cases e1
          cases d with
          | tup es => cases (show some es = some ds from l); exact .inl r1
          | lst es =>
            cases (show some es = some ds from l)
            obtain ⟨p1, v1, e1, t1, r2, _⟩ := r1
            cases e1
            have : SqT X.K H' q vs := o
            rcases this with (h1 | ⟨ob, h1⟩) | h1
            · rw [t1.2] at h1; cases h1
            · rw [t1.2] at h1; cases h1
            · exact .inl ⟨q, vs, rfl, .inr h1, r, n⟩
          | _ => cases (show none = some ds from l)
        | ol es =>
          simp only [Hd.items, ee] at l
          rw [ee] at qq
          cases l
          obtain ⟨p1, v1, e1, t1, r2, _⟩ := qq
          cases e1
          have : SqT X.K H' q vs := o
          rcases this with (h1 | ⟨ob, h1⟩) | h1
          · rw [t1] at h1; cases h1
          · rw [t1] at h1; cases h1
          · exact .inl ⟨q, vs, rfl, .inr h1, r, n⟩
        | _ => simp only [Hd.items, ee] at l; cases l
    obtain ⟨q, vs, rfl, o, r, n⟩ := s'.items rv l
    refine ⟨q, vs, rfl, ?_⟩
    rcases o with o | o
    · refine .inl ⟨.of o, fun p hp => ?_⟩
      exact k _ _ _ (Ext.new' hp) (s'.new hp) _ ⟨p, vs, rfl, .inl ⟨.inr rfl, upd_same⟩, r.new s' hp, n⟩
    · rcases tupOf o r n l rv with z | z
      · exact .inr ⟨o, k.here s' _ z⟩
      · refine .inl ⟨.of z, fun p hp => ?_⟩
        exact k _ _ _ (Ext.new' hp) (s'.new hp) _ ⟨p, vs, rfl, .inl ⟨.inr rfl, upd_same⟩, r.new s' hp, n⟩
/-- isinstance(x, T) -/
def D.ty : D → Option String
  | .non => some "NoneType"
  | .bl _ => some "bool"
  | .int _ => some "int"
  | .str _ => some "str"
  | .tup _ => some "tuple"
  | .lst _ => some "list"
  | .dic => some "dict"
  | .fn _ => none
theorem Rp.tyx {d : D} {v : V} {t : String} (r : Rp X.K X.mg H Z d v) (e : d.ty = some t) : TyX X.K H v (.type t) := by
  cases d with
  | non => cases e; cases (show v = _ from r); exact .base .non
  | bl b => cases e; cases (show v = _ from r); exact .base (.bl b)
  | int i => cases e; cases (show v = _ from r); exact .base (.int i)
  | str x => cases e; cases (show v = _ from r); exact .base (.str x)
  | tup ds =>
    cases e
    obtain ⟨p, vs, e1, t, _⟩ := r
    subst e1
    rcases t with ⟨_, t⟩ | ⟨o, its, n, hk, hc, _⟩
    · exact .base (.tup t)
    · exact .kTuple hk hc
  | lst ds =>
    cases e
    obtain ⟨p, vs, e1, t, _⟩ := r
    subst e1
    exact .base (.lst t.2)
  | dic =>
    cases e
    obtain ⟨p, e1, _, t⟩ := r
    subst e1
    exact .base (.dK t)
  | fn x => cases e
@[simp] def fIsi (tb : D → Option Bool) (f : Fr Hd) : Fr D := fun ρ => (f ρ).bind fun h ρ' => match h.look ρ' with
  | some d => match tb d with
    | some b => .ok (.bl b) ρ'
    | none => .st
  | none => .st
def isTy (n : String) (d : D) : Option Bool := match d.ty with
  | some t => kitB t n
  | none => none
theorem boot_isi : bootBuiltins "isinstance" = some (.builtin "isinstance") := by decide +kernel
theorem de_isi {n : Str} {ty : String} {tb : D → Option Bool} {p1 : Pos} (hg : Gl X "isinstance") (hm : X.mg "isinstance" = none) (hg2 : Gl X n) (hm2 : X.mg n = none) (hv : bootBuiltins n = some (.type ty)) (hn : n ≠ "__name__") (hdb : (n == ("__debug__" : Str)) = false)
    (htb : ∀ d b, tb d = some b → ∃ t, d.ty = some t ∧ kitB t ty = some b) (ha : DB X T ξ W a f) (he : starEach [a, .Name n p1] X.env = (false, eval a X.env) :: starEach [.Name n p1] X.env := by rfl) (he2 : starEach [.Name n p1] X.env = (false, eval (.Name n p1) X.env) :: starEach [] X.env := by rfl)
    (hpl : (backTo pos (starEach [.Name n p1] X.env)).any (·.1) = false := by rfl) :
    DE X T ξ W (.Call (.Name "isinstance" p) [a, .Name n p1] [] pos) (fIsi tb f) := by
  refine (pe_callB call_isi hg hm boot_isi (pa_cons ha (pa_cons (pe_bltn (v := .ty ty) hg2 hm2 hv rfl hn hdb) pa_nil he2) he) (by decide) (by decide) he hpl).to fun σ H Q ⟨ρ, Z, F, s, h⟩ => ⟨ρ, Z, F, s, (Pst.bind h).imp fun hd ρ' H' Z' F' _ s' k v rv => ?_⟩
  cases l : hd.look ρ' with
  | none => simp only [l] at k; exact k.elim
  | some d =>
    simp only [l] at k
    cases e : tb d with
    | none => simp only [e] at k; exact k.elim
    | some b =>
      simp only [e] at k
      obtain ⟨t, e1, e2⟩ := htb d b e
      exact ⟨v, .ty ty, .type t, .type ty, b, rfl, .ty ty, Rp.tyx (s'.look rv l) e1, kit_ty e2, k.here s' _ rfl⟩
@[simp] def tInt : D → Option Bool
  | .int _ => some true
  | .bl _ => some true
  | .fn _ => none
  | _ => some false
@[simp] def tBool : D → Option Bool
  | .bl _ => some true
  | .fn _ => none
  | _ => some false
@[simp] def tTuple : D → Option Bool
  | .tup _ => some true
  | .fn _ => none
  | _ => some false
@[simp] def tList : D → Option Bool
  | .lst _ => some true
  | .fn _ => none
  | _ => some false
@[simp] def tStr : D → Option Bool
  | .str _ => some true
  | .fn _ => none
  | _ => some false
theorem tInt_ok : ∀ d b, tInt d = some b → ∃ t, d.ty = some t ∧ kitB t "int" = some b := fun d b h => by
  cases d <;> first
    | (cases h; exact ⟨_, rfl, by decide +kernel⟩)
    | (cases h)
theorem tBool_ok : ∀ d b, tBool d = some b → ∃ t, d.ty = some t ∧ kitB t "bool" = some b := fun d b h => by
  cases d <;> first
    | (cases h; exact ⟨_, rfl, by decide +kernel⟩)
    | (cases h)
theorem tTuple_ok : ∀ d b, tTuple d = some b → ∃ t, d.ty = some t ∧ kitB t "tuple" = some b := fun d b h => by
  cases d <;> first
    | (cases h; exact ⟨_, rfl, by decide +kernel⟩)
    | (cases h)
theorem tList_ok : ∀ d b, tList d = some b → ∃ t, d.ty = some t ∧ kitB t "list" = some b := fun d b h => by
  cases d <;> first
    | (cases h; exact ⟨_, rfl, by decide +kernel⟩)
    | (cases h)
theorem tStr_ok : ∀ d b, tStr d = some b → ∃ t, d.ty = some t ∧ kitB t "str" = some b := fun d b h => by
  cases d <;> first
    | (cases h; exact ⟨_, rfl, by decide +kernel⟩)
    | (cases h)
theorem bt_int : bootBuiltins "int" = some (.type "int") := by decide +kernel
theorem bt_bool : bootBuiltins "bool" = some (.type "bool") := by decide +kernel
theorem bt_str : bootBuiltins "str" = some (.type "str") := by decide +kernel
theorem bt_abs : bootBuiltins "abs" = some (.builtin "abs") := by decide +kernel
/-- abs(n), int(n) -/
@[simp] def oAbs : D → Option D
  | .int i => some (.int (if i < 0 then -i else i))
  | _ => none
@[simp] def oInt : D → Option D
  | .int i => some (.int i)
  | .bl b => some (.int (if b then 1 else 0))
  | _ => none
theorem de_abs (hg : Gl X "abs") (hm : X.mg "abs" = none) (ha : DE X T ξ W a h) (he : starEach [a] X.env = (false, eval a X.env) :: starEach [] X.env := by rfl) : DE X T ξ W (.Call (.Name "abs" p) [a] [] pos) (fUn oAbs h) := by
  refine (pe_callB call_abs hg hm bt_abs (pa_cons ha pa_nil he) (by decide) (by decide) he).to fun σ H Q ⟨ρ, Z, F, s, h⟩ => ⟨ρ, Z, F, s, (Pst.bind h).imp fun d ρ' H' Z' F' _ s' k v rv => ?_⟩
  cases d with
  | int i => cases (show v = _ from rv); exact ⟨i, rfl, k.here s' _ rfl⟩
  | _ => exact k.elim
theorem de_toInt (hg : Gl X "int") (hm : X.mg "int" = none) (ha : DE X T ξ W a h) (he : starEach [a] X.env = (false, eval a X.env) :: starEach [] X.env := by rfl) : DE X T ξ W (.Call (.Name "int" p) [a] [] pos) (fUn oInt h) := by
  refine (pe_callTy call_int1 hg hm bt_int (pa_cons ha pa_nil he) (by decide) (by decide) he).to fun σ H Q ⟨ρ, Z, F, s, h⟩ => ⟨ρ, Z, F, s, (Pst.bind h).imp fun d ρ' H' Z' F' _ s' k v rv => ?_⟩
  cases d with
  | int i => cases (show v = _ from rv); exact .inl ⟨i, rfl, k.here s' _ rfl⟩
  | bl b => cases (show v = _ from rv); exact .inr ⟨b, rfl, k.here s' _ rfl⟩
  | _ => exact k.elim
end
end
end Dt
namespace Dt
open PySem PySem.Spec PyProof.Rows L2
section
variable {X : Cx} {T : Tab} {ξ : Xi} {W : WX} {σ : L2.St} {ρ : Ro} {H H' : Hp} {Z Z' : Z1} {F : F1}

/-! ### 13. lists and tuples put together, cut -/
@[simp] def D.lits : D → Option (List D)
  | .lst ds => some ds
  | _ => none
@[simp] def D.tits : D → Option (List D)
  | .tup ds => some ds
  | _ => none
@[simp] def Hd.lits (ρ : Ro) : Hd → Option (List D)
  | .val d => d.lits
  | .at i => match ρ.getD i .no with
    | .dat d => d.lits
    | .ol ds => some ds
    | _ => none
@[simp] def Hd.tits (ρ : Ro) : Hd → Option (List D)
  | .val d => d.tits
  | .at i => match ρ.getD i .no with
    | .dat d => d.tits
    | _ => none
theorem Rp.lits {d : D} {ds : List D} {v : V} (r : Rp X.K X.mg H Z d v) (e : d.lits = some ds) : ∃ p vs, v = .ref p ∧ H p = some (.lst vs) ∧ RpL X.K X.mg H Z ds vs ∧ ds.length ≤ sizeLine := by
  cases d with
  | lst es =>
    cases e
    obtain ⟨p, vs, e1, t, r, n⟩ := r
    exact ⟨p, vs, e1, t.2, r, n⟩
  | _ => cases e
theorem Sta.lits (s : Sta X.K X.mg T ξ H Z F σ ρ) {h : Hd} {ds : List D} {v : V} (r : HdR X H Z σ v h) (e : h.lits ρ = some ds) :
    ∃ p vs, v = .ref p ∧ H p = some (.lst vs) ∧ RpL X.K X.mg H Z ds vs ∧ ds.length ≤ sizeLine := by
  cases h with
  | val d => exact Rp.lits r e
  | «at» i =>
    have r' : σ.getD i none = some v := some_getD r
    have q := s.rep i
    rw [r'] at q
    cases ee : ρ.getD i .no with
    | dat d =>
      simp only [Hd.lits, ee] at e
      rw [ee] at q
      obtain ⟨⟨u, e1, r1⟩, _⟩ := q
      cases e1
      exact Rp.lits r1 e
    | ol es =>
      simp only [Hd.lits, ee] at e
      rw [ee] at q
      cases e
      obtain ⟨p, vs, e1, e2, r1, n, ip⟩ := q
      cases e1
      exact ⟨p, vs, rfl, e2, r1, n⟩
    | _ => simp only [Hd.lits, ee] at e; cases e
theorem Sta.tits (s : Sta X.K X.mg T ξ H Z F σ ρ) {h : Hd} {ds : List D} {v : V} (r : HdR X H Z σ v h) (e : h.tits ρ = some ds) : Rp X.K X.mg H Z (.tup ds) v := by
  have ok : ∀ d : D, d.tits = some ds → Rp X.K X.mg H Z d v → Rp X.K X.mg H Z (.tup ds) v := fun d e r => by
    cases d with
    | tup es => cases e; exact r
    | _ => cases e
  cases h with
  | val d => exact ok d e r
  | «at» i =>
    have r' : σ.getD i none = some v := some_getD r
    have q := s.rep i
    rw [r'] at q
    cases ee : ρ.getD i .no with
    | dat d =>
      simp only [Hd.tits, ee] at e
      rw [ee] at q
      obtain ⟨⟨u, e1, r1⟩, _⟩ := q
      cases e1
      exact ok d e r1
    | _ => simp only [Hd.tits, ee] at e; cases e
def lim : Nat := 1000000
theorem lim_ok {n : Nat} (h : n ≤ lim) : n ≤ sizeLine := by unfold lim at h; rw [sizeLine_eq]; omega
section
variable {a b : Expr} {pos : Pos} {f g : Fr Hd} {e : Fr D}
@[simp] def fCat (f g : Fr Hd) : Fr (List D) := fun ρ => (f ρ).bind fun h1 ρ1 => (g ρ1).bind fun h2 ρ2 => match h1.lits ρ2, h2.lits ρ2 with
  | some xs, some ys => if xs.length + ys.length ≤ lim then .ok (xs ++ ys) ρ2 else .st
  | _, _ => .st
theorem dn_cat (ha : DB X T ξ W a f) (hb : DB X T ξ W b g) : DN X T ξ W (.BinOp a .Add b pos) (fCat f g) := by
  refine (pe_op op_cat ha hb).to fun σ H Q ⟨ρ, Z, F, s, h⟩ => ⟨ρ, Z, F, s, (Pst.bind h).imp fun h1 ρ1 H1 Z1 F1 e1 s1 q1 v rv => ⟨ρ1, Z1, F1, s1, (Pst.bind q1).imp fun h2 ρ2 H2 Z2 F2 e2 s2 q2 w rw' => ?_⟩⟩
  have rv' := rv.ext s1 e2
  cases l1 : h1.lits ρ2 with
  | none => simp only [l1] at q2; exact q2.elim
  | some xs =>
    cases l2 : h2.lits ρ2 with
    | none => simp only [l1, l2] at q2; exact q2.elim
    | some ys =>
      simp only [l1, l2] at q2
      by_cases c : xs.length + ys.length ≤ lim
      · rw [if_pos c] at q2
        obtain ⟨p, vs, rfl, hp, r1, _⟩ := s2.lits rv' l1
        obtain ⟨q, ws, rfl, hq, r2, _⟩ := s2.lits rw' l2
        refine ⟨p, q, vs, ws, rfl, rfl, hp, hq, by rw [r1.length, r2.length]; exact lim_ok c, fun l hl => ?_⟩
        exact q2.here s2 l _ _ upd_same upd_other hl (r1.app r2) (by rw [List.length_append]; exact lim_ok c)
      · rw [if_neg c] at q2; exact q2.elim
/-- [..] * n -/
@[simp] def fRep (f : Fr Hd) (g : Fr D) : Fr (List D) := fun ρ => (f ρ).bind fun h ρ1 => (g ρ1).bind fun d ρ2 => match h.lits ρ2, d with
  | some xs, .int k => if xs.length * k.toNat ≤ lim ∧ -1000000 ≤ k ∧ k ≤ 1000000 then .ok (List.replicate k.toNat xs).flatten ρ2 else .st
  | _, _ => .st
theorem RpL.rep {K : Frag} {mg : Str → Option Value} {ds : List D} {vs : List V} (r : RpL K mg H Z ds vs) : ∀ k : Nat, RpL K mg H Z (List.replicate k ds).flatten (List.replicate k vs).flatten
  | 0 => rfl
  | k + 1 => by
    simp only [List.replicate_succ, List.flatten_cons]
    exact r.app (RpL.rep r k)
theorem dn_rep (ha : DB X T ξ W a f) (hb : DE X T ξ W b e) : DN X T ξ W (.BinOp a .Mult b pos) (fRep f e) := by
  refine (pe_op op_rep ha hb).to fun σ H Q ⟨ρ, Z, F, s, h⟩ => ⟨ρ, Z, F, s, (Pst.bind h).imp fun h1 ρ1 H1 Z1 F1 e1 s1 q1 v rv => ⟨ρ1, Z1, F1, s1, (Pst.bind q1).imp fun d ρ2 H2 Z2 F2 e2 s2 q2 w rw' => ?_⟩⟩
  have rv' := rv.ext s1 e2
  cases l1 : h1.lits ρ2 with
  | none => simp only [l1] at q2; exact q2.elim
  | some xs =>
    cases d with
    | int k =>
      simp only [l1] at q2
      by_cases c : xs.length * k.toNat ≤ lim ∧ -1000000 ≤ k ∧ k ≤ 1000000
      · rw [if_pos c] at q2
        obtain ⟨p, vs, rfl, hp, r1, _⟩ := s2.lits rv' l1
        cases (show w = _ from rw')
        refine ⟨p, k, vs, rfl, rfl, hp, by omega, by omega, by rw [r1.length]; exact lim_ok c.1, fun l hl => ?_⟩
        exact q2.here s2 l _ _ upd_same upd_other hl (r1.rep _) (by rw [PyProof.Rows.lm_len_rep_flat, Nat.mul_comm]; exact lim_ok c.1)
      · rw [if_neg c] at q2; exact q2.elim
    | _ => simp only [l1] at q2; exact q2.elim
/-- t + u -/
@[simp] def fCatT (f g : Fr Hd) : Fr D := fun ρ => (f ρ).bind fun h1 ρ1 => (g ρ1).bind fun h2 ρ2 => match h1.tits ρ2, h2.tits ρ2 with
  | some xs, some ys => if xs.length + ys.length ≤ lim then .ok (.tup (xs ++ ys)) ρ2 else .st
  | _, _ => .st
theorem de_catT (ha : DB X T ξ W a f) (hb : DB X T ξ W b g) : DE X T ξ W (.BinOp a .Add b pos) (fCatT f g) := by
  refine (pe_op op_catA ha hb).to fun σ H Q ⟨ρ, Z, F, s, h⟩ => ⟨ρ, Z, F, s, (Pst.bind h).imp fun h1 ρ1 H1 Z1 F1 e1 s1 q1 v rv => ⟨ρ1, Z1, F1, s1, (Pst.bind q1).imp fun h2 ρ2 H2 Z2 F2 e2 s2 q2 w rw' => ?_⟩⟩
  have rv' := rv.ext s1 e2
  cases l1 : h1.tits ρ2 with
  | none => simp only [l1] at q2; exact q2.elim
  | some xs =>
    cases l2 : h2.tits ρ2 with
    | none => simp only [l1, l2] at q2; exact q2.elim
    | some ys =>
      simp only [l1, l2] at q2
      by_cases c : xs.length + ys.length ≤ lim
      · rw [if_pos c] at q2
        have rx := s2.tits rv' l1
        have ry := s2.tits rw' l2
        obtain ⟨p, vs, rfl, tp, r1, n1⟩ := id rx
        obtain ⟨q, ws, rfl, tq, r2, n2⟩ := id ry
        refine ⟨p, q, vs, ws, rfl, rfl, tp.sq, tq.sq, by rw [r1.length, r2.length]; exact lim_ok c, fun z => ?_, fun _ z => ?_, fun _ _ l hl => ?_⟩
        · have : xs = [] := by have := r1.length; rw [z] at this; exact List.eq_nil_of_length_eq_zero this.symm
          subst this
          exact q2.here s2 _ ry
        · have : ys = [] := by have := r2.length; rw [z] at this; exact List.eq_nil_of_length_eq_zero this.symm
          subst this
          rw [List.append_nil] at q2
          exact q2.here s2 _ rx
        · exact q2 _ _ _ (Ext.new' hl) (s2.new hl) _ ⟨l, _, rfl, .inl ⟨.inr rfl, upd_same⟩, (r1.app r2).new s2 hl, by rw [List.length_append]; exact lim_ok c⟩
      · rw [if_neg c] at q2; exact q2.elim
/-- (..) * n -/
@[simp] def fRepT (f : Fr Hd) (g : Fr D) : Fr D := fun ρ => (f ρ).bind fun h ρ1 => (g ρ1).bind fun d ρ2 => match h.tits ρ2, d with
  | some xs, .int k => if xs ≠ [] ∧ 2 ≤ k ∧ k ≤ 1000 ∧ xs.length ≤ 1000 then .ok (.tup (List.replicate k.toNat xs).flatten) ρ2 else .st
  | _, _ => .st
theorem de_repT (ha : DB X T ξ W a f) (hb : DE X T ξ W b e) : DE X T ξ W (.BinOp a .Mult b pos) (fRepT f e) := by
  refine (pe_op op_repT ha hb).to fun σ H Q ⟨ρ, Z, F, s, h⟩ => ⟨ρ, Z, F, s, (Pst.bind h).imp fun h1 ρ1 H1 Z1 F1 e1 s1 q1 v rv => ⟨ρ1, Z1, F1, s1, (Pst.bind q1).imp fun d ρ2 H2 Z2 F2 e2 s2 q2 w rw' => ?_⟩⟩
  have rv' := rv.ext s1 e2
  cases l1 : h1.tits ρ2 with
  | none => simp only [l1] at q2; exact q2.elim
  | some xs =>
    cases d with
    | int k =>
      simp only [l1] at q2
      by_cases c : xs ≠ [] ∧ 2 ≤ k ∧ k ≤ 1000 ∧ xs.length ≤ 1000
      · rw [if_pos c] at q2
        obtain ⟨p, vs, rfl, tp, r1, n1⟩ := s2.tits rv' l1
        cases (show w = _ from rw')
        refine ⟨p, k, vs, rfl, rfl, tp.sq, fun z => c.1 ?_, c.2.1, c.2.2.1, by rw [r1.length]; exact c.2.2.2, fun l hl => ?_⟩
        · have := r1.length; rw [z] at this; exact List.eq_nil_of_length_eq_zero this.symm
        · refine q2 _ _ _ (Ext.new' hl) (s2.new hl) _ ⟨l, _, rfl, .inl ⟨.inr rfl, upd_same⟩, (r1.rep _).new s2 hl, ?_⟩
          rw [PyProof.Rows.lm_len_rep_flat, sizeLine_eq]
          have a1 : k.toNat * xs.length ≤ 1000 * 1000 := Nat.mul_le_mul (by omega) c.2.2.2
          omega
      · rw [if_neg c] at q2; exact q2.elim
    | _ => simp only [l1] at q2; exact q2.elim
end
/-! ### 14. cuts -/
def tDO (X : Cx) (T : Tab) (ξ : Xi) (W : WX) (f : Fr (Option Int)) : TO := fun σ H Q => ∃ ρ Z F, Sta X.K X.mg T ξ H Z F σ ρ ∧ Pst X T ξ W σ (f ρ) (fun d _ H' _ _ => Q d H') H Z F
abbrev DO (X : Cx) (T : Tab) (ξ : Xi) (W : WX) (e : Option Expr) (f : Fr (Option Int)) : Prop := PO X e (tDO X T ξ W f)
theorem _root_.L2.PO.to {X : Cx} {e : Option Expr} {t t' : TO} (h : PO X e t) (f : ∀ σ H Q, t' σ H Q → t σ H Q) : PO X e t' := ⟨fun pins s σ H Q I q => h.run pins s σ H Q I (f σ H Q q)⟩
@[simp] def fNo : Fr (Option Int) := fun ρ => .ok none ρ
@[simp] def fSo (f : Fr D) : Fr (Option Int) := fun ρ => (f ρ).bind fun d ρ' => match d with
  | .int i => .ok (some i) ρ'
  | _ => .st
theorem do_none : DO X T ξ W none fNo := po_none.to fun _ _ _ ⟨_, _, _, s, h⟩ => h.here s
theorem do_some {a : Expr} {f : Fr D} (h : DE X T ξ W a f) : DO X T ξ W (some a) (fSo f) := by
  refine (po_some h).to fun σ H Q ⟨ρ, Z, F, s, h⟩ => ⟨ρ, Z, F, s, (Pst.bind h).imp fun d ρ' H' Z' F' _ s' k v rv => ?_⟩
  cases d with
  | int i => exact ⟨i, rv, k.here s'⟩
  | _ => exact k.elim
def cutD (xs : List D) (lo hi : Option Int) : List D := (xs.drop (HT.sIx xs.length 0 lo)).take (HT.sIx xs.length xs.length hi - HT.sIx xs.length 0 lo)
theorem RpL.cut {K : Frag} {mg : Str → Option Value} {ds : List D} {vs : List V} (r : RpL K mg H Z ds vs) (lo hi : Option Int) : RpL K mg H Z (cutD ds lo hi) (cutV vs lo hi) := by
  unfold cutD cutV
  rw [r.length]
  exact (r.drop _).take _
theorem cutD_le (xs : List D) (lo hi : Option Int) : (cutD xs lo hi).length ≤ xs.length := by
  unfold cutD
  rw [List.length_take, List.length_drop]
  omega
section
variable {a : Expr} {lo hi : Option Expr} {pos p2 : Pos} {f : Fr Hd} {g h : Fr (Option Int)}
@[simp] def fCut (f : Fr Hd) (g h : Fr (Option Int)) : Fr (List D) := fun ρ => (f ρ).bind fun hd ρ1 => (g ρ1).bind fun i ρ2 => (h ρ2).bind fun j ρ3 => match hd.lits ρ3 with
  | some xs => .ok (cutD xs i j) ρ3
  | none => .st
theorem dn_cut (ha : DB X T ξ W a f) (hl : DO X T ξ W lo g) (hh : DO X T ξ W hi h) : DN X T ξ W (.Subscript a (.Slice lo hi none p2) pos) (fCut f g h) := by
  refine (pe_slice sl_list ha hl hh).to fun σ H Q ⟨ρ, Z, F, s, h⟩ => ⟨ρ, Z, F, s, (Pst.bind h).imp fun h1 ρ1 H1 Z1 F1 e1 s1 q1 v rv => ⟨ρ1, Z1, F1, s1, (Pst.bind q1).imp fun i ρ2 H2 Z2 F2 e2 s2 q2 => ⟨ρ2, Z2, F2, s2, (Pst.bind q2).imp fun j ρ3 H3 Z3 F3 e3 s3 q3 => ?_⟩⟩⟩
  have rv' := (rv.ext s1 e2).ext s2 e3
  cases l1 : h1.lits ρ3 with
  | none => simp only [l1] at q3; exact q3.elim
  | some xs =>
    simp only [l1] at q3
    obtain ⟨p, vs, rfl, hp, r1, n⟩ := s3.lits rv' l1
    exact ⟨p, vs, rfl, .of hp, fun l hl => q3.here s3 l _ _ upd_same upd_other hl (r1.cut i j) (Nat.le_trans (cutD_le _ _ _) n)⟩
@[simp] def fCutT (f : Fr Hd) (g h : Fr (Option Int)) : Fr D := fun ρ => (f ρ).bind fun hd ρ1 => (g ρ1).bind fun i ρ2 => (h ρ2).bind fun j ρ3 => match hd.tits ρ3 with
  | some xs => .ok (.tup (cutD xs i j)) ρ3
  | none => .st
theorem cut_whole {xs : List D} {lo hi : Option Int} (h : HT.sIx xs.length 0 lo = 0 ∧ HT.sIx xs.length xs.length hi = xs.length) : cutD xs lo hi = xs := by
  unfold cutD
  rw [h.1, h.2]
  simp
theorem de_cutT (ha : DB X T ξ W a f) (hl : DO X T ξ W lo g) (hh : DO X T ξ W hi h) : DE X T ξ W (.Subscript a (.Slice lo hi none p2) pos) (fCutT f g h) := by
  refine (pe_slice sl_tupA ha hl hh).to fun σ H Q ⟨ρ, Z, F, s, h⟩ => ⟨ρ, Z, F, s, (Pst.bind h).imp fun h1 ρ1 H1 Z1 F1 e1 s1 q1 v rv => ⟨ρ1, Z1, F1, s1, (Pst.bind q1).imp fun i ρ2 H2 Z2 F2 e2 s2 q2 => ⟨ρ2, Z2, F2, s2, (Pst.bind q2).imp fun j ρ3 H3 Z3 F3 e3 s3 q3 => ?_⟩⟩⟩
  have rv' := (rv.ext s1 e2).ext s2 e3
  cases l1 : h1.tits ρ3 with
  | none => simp only [l1] at q3; exact q3.elim
  | some xs =>
    simp only [l1] at q3
    have rx := s3.tits rv' l1
    obtain ⟨p, vs, rfl, tp, r1, n⟩ := id rx
    refine ⟨p, vs, rfl, tp.sq, fun w => ?_, fun _ l hl => ?_⟩
    · rw [r1.length] at w
      rw [cut_whole w] at q3
      exact q3.here s3 _ rx
    · exact q3 _ _ _ (Ext.new' hl) (s3.new hl) _ ⟨l, _, rfl, .inl ⟨.inr rfl, upd_same⟩, (r1.cut i j).new s3 hl, Nat.le_trans (cutD_le _ _ _) n⟩
end

/-! ### 15. what is walked -/
def Kp (H0 : Hp) (Z0 : Z1) (H : Hp) : Prop := ∀ b o, H0 b = some o → Z0 b → H b = some o
/-- the walk J gives the items ds, as long as what was frozen at (H0, Z0) stands -/
structure Wk (X : Cx) (J : It) (ds : List D) (H0 : Hp) (Z0 : Z1) : Prop where
  go : ∀ i d H, Kp H0 Z0 H → ds[i]? = some d → J.go i H
  yld : ∀ i d H x H' Z, Kp H0 Z0 H → (∀ a, Z0 a → Z a) → (∀ a, Z a → ∃ o, H a = some o) → ds[i]? = some d → J.yld i H x H' →
    ∃ Z', Ext H Z (fun _ => False) H' Z' (fun _ => False) ∧ (∀ a, Z' a → ∃ o, H' a = some o) ∧ Rp X.K X.mg H' Z' d x
  stop : ∀ i H, Kp H0 Z0 H → ds.length ≤ i → J.stop i H
def tDI (X : Cx) (T : Tab) (ξ : Xi) (W : WX) (f : Fr (List D)) : TI := fun σ H R => ∃ ρ Z F, Sta X.K X.mg T ξ H Z F σ ρ ∧ Pst X T ξ W σ (f ρ) (fun ds _ H' Z' _ => ds.length ≤ sizeLine → ∀ J, Wk X J ds H' Z' → R J H') H Z F
abbrev DI (X : Cx) (T : Tab) (ξ : Xi) (W : WX) (tg e : Expr) (f : Fr (List D)) : Prop := PI X tg e (tDI X T ξ W f)
theorem _root_.L2.PI.to {X : Cx} {tg e : Expr} {t t' : TI} (h : PI X tg e t) (f : ∀ σ H Q, t' σ H Q → t σ H Q) : PI X tg e t' := ⟨fun pins s σ H Q I q => h.run pins s σ H Q I (f σ H Q q)⟩
theorem wk_list {p : Addr} {vs : List V} {ds : List D} (hz : Z p) (h : H p = some (.lst vs)) (r : RpL X.K X.mg H Z ds vs) : Wk X (Itl X.K p) ds H Z where
  go := fun i d H1 k hd => by
    obtain ⟨v, hv, _⟩ := r.get hd
    exact ⟨vs, v, .of (k _ _ h hz), hv⟩
  yld := fun i d H1 x H2 Z2 k zz zh hd y => by
    obtain ⟨e, y⟩ := y
    subst e
    obtain ⟨v, hv, rv⟩ := r.get hd
    have : some v = some x := hv.symm.trans (y vs (.of (k _ _ h hz)))
    cases this
    exact ⟨Z2, Ext.refl _ _ _, zh, Rp.mono k zz _ _ rv⟩
  stop := fun i H1 k hn => ⟨vs, .of (k _ _ h hz), by rw [r.length]; exact hn⟩
theorem SqT.kp {p : Addr} {vs : List V} (t : TupAt X.K H Z p vs) (k : Kp H Z H') : SqT X.K H' p vs := t.elim (fun q => .of (k _ _ q.2 q.1)) .inr
theorem wk_tup {p : Addr} {vs : List V} {ds : List D} (t : TupAt X.K H Z p vs) (r : RpL X.K X.mg H Z ds vs) : Wk X (Itt X.K p) ds H Z where
  go := fun i d H1 k hd => by
    obtain ⟨v, hv, _⟩ := r.get hd
    exact ⟨vs, v, SqT.kp t k, hv⟩
  yld := fun i d H1 x H2 Z2 k zz zh hd y => by
    obtain ⟨e, y⟩ := y
    subst e
    obtain ⟨v, hv, rv⟩ := r.get hd
    have : some v = some x := hv.symm.trans (y vs (SqT.kp t k))
    cases this
    exact ⟨Z2, Ext.refl _ _ _, zh, Rp.mono k zz _ _ rv⟩
  stop := fun i H1 k hn => ⟨vs, SqT.kp t k, by rw [r.length]; exact hn⟩
def rgD (lo : Int) (n : Nat) : List D := (List.range n).map fun i => .int (lo + (i : Nat))
theorem wk_range {lo : Int} {n : Nat} : Wk X (Itr lo n) (rgD lo n) H Z where
  go := fun i d H1 k hd => by
    have := (List.getElem?_eq_some_iff.mp hd).1
    show i < n
    simpa [rgD] using this
  yld := fun i d H1 x H2 Z2 k zz zh hd y => by
    obtain ⟨e, y⟩ := y
    subst e y
    have hi := (List.getElem?_eq_some_iff.mp hd).1
    have hi : i < n := by simpa [rgD] using hi
    have : d = .int (lo + (i : Nat)) := by
      simp [rgD, List.getElem?_map, List.getElem?_range hi] at hd
      exact hd.symm
    subst this
    exact ⟨Z2, Ext.refl _ _ _, zh, rfl⟩
  stop := fun i H1 k hn => by
    show n ≤ i
    simpa [rgD] using hn
section
variable {tg a b : Expr} {p pos : Pos} {f g : Fr D}
@[simp] def fItL (f : Fr D) : Fr (List D) := fun ρ => (f ρ).bind fun d ρ' => match d with
  | .lst ds => .ok ds ρ'
  | _ => .st
@[simp] def fItT (f : Fr D) : Fr (List D) := fun ρ => (f ρ).bind fun d ρ' => match d with
  | .tup ds => .ok ds ρ'
  | _ => .st
theorem di_list (h : DE X T ξ W a f) : DI X T ξ W tg a (fItL f) := by
  refine (pi_list h).to fun σ H R ⟨ρ, Z, F, s, h⟩ => ⟨ρ, Z, F, s, (Pst.bind h).imp fun d ρ' H' Z' F' _ s' k v rv => ?_⟩
  cases d with
  | lst ds =>
    obtain ⟨p, vs, rfl, t, r, n⟩ := rv
    exact ⟨p, rfl, ⟨vs, .of t.2⟩, k.here s' n _ (wk_list t.1 t.2 r)⟩
  | _ => exact k.elim
theorem di_tup (h : DE X T ξ W a f) : DI X T ξ W tg a (fItT f) := by
  refine (pi_tup h).to fun σ H R ⟨ρ, Z, F, s, h⟩ => ⟨ρ, Z, F, s, (Pst.bind h).imp fun d ρ' H' Z' F' _ s' k v rv => ?_⟩
  cases d with
  | tup ds =>
    obtain ⟨p, vs, rfl, t, r, n⟩ := rv
    exact ⟨p, rfl, ⟨vs, t.sq⟩, k.here s' n _ (wk_tup t r)⟩
  | _ => exact k.elim
@[simp] def fRg1 (f : Fr D) : Fr (List D) := fun ρ => (f ρ).bind fun d ρ' => match d with
  | .int j => if -(lim : Int) ≤ j ∧ j ≤ (lim : Int) then .ok (rgD 0 j.toNat) ρ' else .st
  | _ => .st
theorem rgD_length (lo : Int) (n : Nat) : (rgD lo n).length = n := by simp [rgD]
theorem di_range1 (hg : Gl X "range") (hm : X.mg "range" = none) (h : DE X T ξ W a f) (hs : starEach [a] X.env = [(false, eval a X.env)] := by rfl) : DI X T ξ W tg (.Call (.Name "range" p) [a] [] pos) (fRg1 f) := by
  refine (pi_range1 hg hm (pa_cons h pa_nil hs) hs).to fun σ H R ⟨ρ, Z, F, s, h⟩ => ⟨ρ, Z, F, s, (Pst.bind h).imp fun d ρ' H' Z' F' _ s' k v rv => ?_⟩
  cases d with
  | int j =>
    cases (show v = _ from rv)
    by_cases c : -(lim : Int) ≤ j ∧ j ≤ (lim : Int)
    · simp only [if_pos c] at k
      have l : (lim : Int) = 1000000 := rfl
      exact ⟨j, rfl, by omega, by omega, k.here s' (by rw [rgD_length]; exact lim_ok (by omega)) _ wk_range⟩
    · simp only [if_neg c] at k
      exact k.elim
  | _ => exact k.elim
@[simp] def fRg2 (f g : Fr D) : Fr (List D) := fun ρ => (f ρ).bind fun d ρ1 => (g ρ1).bind fun e ρ2 => match d, e with
  | .int i, .int j => if (-(lim : Int) ≤ i ∧ i ≤ (lim : Int)) ∧ -(lim : Int) ≤ j ∧ j ≤ (lim : Int) then .ok (rgD i (j - i).toNat) ρ2 else .st
  | _, _ => .st
theorem di_range2 (hg : Gl X "range") (hm : X.mg "range" = none) (h : DE X T ξ W a f) (h' : DE X T ξ W b g) (hs : starEach [a, b] X.env = [(false, eval a X.env), (false, eval b X.env)] := by rfl) (hs2 : starEach [b] X.env = [(false, eval b X.env)] := by rfl) :
    DI X T ξ W tg (.Call (.Name "range" p) [a, b] [] pos) (fRg2 f g) := by
  refine (pi_range2 hg hm (pa_cons h (pa_cons h' pa_nil hs2) (by rw [hs, hs2])) hs hs2).to fun σ H R ⟨ρ, Z, F, s, h⟩ => ⟨ρ, Z, F, s, (Pst.bind h).imp fun d ρ1 H1 Z1 F1 e1 s1 k1 v rv => ⟨ρ1, Z1, F1, s1, (Pst.bind k1).imp fun e ρ2 H2 Z2 F2 e2 s2 k w rw' => ?_⟩⟩
  cases d with
  | int i =>
    cases e with
    | int j =>
      cases (show v = _ from rv)
      cases (show w = _ from rw')
      by_cases c : (-(lim : Int) ≤ i ∧ i ≤ (lim : Int)) ∧ -(lim : Int) ≤ j ∧ j ≤ (lim : Int)
      · simp only [if_pos c] at k
        have l : (lim : Int) = 1000000 := rfl
        exact ⟨i, j, rfl, by omega, k.here s2 (by rw [rgD_length, sizeLine_eq]; omega) _ wk_range⟩
      · simp only [if_neg c] at k
        exact k.elim
    | _ => exact k.elim
  | _ => exact k.elim
end
end
end Dt
namespace Dt
open PySem PySem.Spec PyProof.Rows L2
section
variable {X : Cx} {T : Tab} {ξ : Xi} {W : WX} {σ : L2.St} {ρ : Ro} {H H' : Hp} {Z Z' : Z1} {F : F1}

/-! ### 16. stores -/
theorem Sta.put (s : Sta X.K X.mg T ξ H Z F σ ρ) {i : Nat} {sl : Sl} {v : V} {P : Z1} (hi : i < ρ.length) (r : RpS X.K X.mg T ξ H Z sl (some v) P) (d : ∀ a, P a → ∀ j, j ≠ i → ¬ F j a) (z : ∀ a, P a → ¬ Z a) :
    Sta X.K X.mg T ξ H Z (fset F i P) (σ.set i (some v)) (ρ.set i sl) where
  rep := fun j => by
    rw [getD_set hi, getD_set (by rw [← s.ln]; exact hi)]
    by_cases e : j = i
    · subst e
      rw [if_pos rfl, if_pos rfl, fset_same]
      exact r
    · rw [if_neg e, if_neg e, fset_ne e]
      exact s.rep j
  dj := fun j l a n h1 h2 => by
    by_cases e : j = i
    · subst e
      rw [fset_same] at h1
      rw [fset_ne (Ne.symm n)] at h2
      exact d a h1 l (Ne.symm n) h2
    · by_cases e' : l = i
      · subst e'
        rw [fset_same] at h2
        rw [fset_ne e] at h1
        exact d a h2 j e h1
      · rw [fset_ne e] at h1
        rw [fset_ne e'] at h2
        exact s.dj j l a n h1 h2
  ln := by rw [List.length_set, List.length_set]; exact s.ln
  zf := fun j a h => by
    by_cases e : j = i
    · subst e
      rw [fset_same] at h
      exact z a h
    · rw [fset_ne e] at h
      exact s.zf j a h
  zh := s.zh
theorem own_fset {F : F1} {i : Nat} {P : Z1} {a : Addr} (h : own (fset F i P) a) : own F a ∨ P a := by
  obtain ⟨j, h⟩ := h
  by_cases e : j = i
  · subst e; rw [fset_same] at h; exact .inr h
  · rw [fset_ne e] at h; exact .inl ⟨j, h⟩
theorem Sta.putD (s : Sta X.K X.mg T ξ H Z F σ ρ) {i : Nat} {d : D} {v : V} (hi : i < ρ.length) (r : Rp X.K X.mg H Z d v) :
    Sta X.K X.mg T ξ H Z (fset F i fun _ => False) (σ.set i (some v)) (ρ.set i (.dat d)) ∧ Ext H Z (own F) H Z (own (fset F i fun _ => False)) :=
  ⟨s.put hi ⟨⟨v, rfl, r⟩, fun _ z => z⟩ (fun _ z => z.elim) fun _ z => z.elim, (Ext.refl H Z (own F)).sub fun a h => (own_fset h).elim id fun z => z.elim⟩
/-- the slots outside vs stand -/
def Out (vs : List Nat) (σ σ' : L2.St) : Prop := σ'.length = σ.length ∧ ∀ j, j ∉ vs → σ'[j]? = σ[j]?
theorem Out.refl (vs : List Nat) (σ : L2.St) : Out vs σ σ := ⟨rfl, fun _ _ => rfl⟩
theorem Out.trans {vs : List Nat} {σ σ1 σ2 : L2.St} (a : Out vs σ σ1) (b : Out vs σ1 σ2) : Out vs σ σ2 := ⟨b.1.trans a.1, fun j h => (b.2 j h).trans (a.2 j h)⟩
theorem Out.set {vs : List Nat} {i : Nat} {v : Option V} (h : i ∈ vs) : Out vs σ (σ.set i v) := ⟨List.length_set, fun j hj => List.getElem?_set_ne (fun e : i = j => hj (e ▸ h))⟩
theorem Out.mono {vs ws : List Nat} {σ σ' : L2.St} (h : Out vs σ σ') (m : ∀ i ∈ vs, i ∈ ws) : Out ws σ σ' := ⟨h.1, fun j hj => h.2 j fun z => hj (m j z)⟩
/-- a target that binds names: b tells what becomes of the slots -/
def tDG (X : Cx) (T : Tab) (ξ : Xi) (vs : List Nat) (b : D → Ro → Option Ro) : TG := fun v σ H Q => ∃ ρ Z F d, Sta X.K X.mg T ξ H Z F σ ρ ∧ Rp X.K X.mg H Z d v ∧ ∃ ρ', b d ρ = some ρ' ∧
  ∀ σ' H' Z' F', Out vs σ σ' → Ext H Z (own F) H' Z' (own F') → Sta X.K X.mg T ξ H' Z' F' σ' ρ' → Q σ' H'
def tDGs (X : Cx) (T : Tab) (ξ : Xi) (vs : List Nat) (b : List D → Ro → Option Ro) : TGs := fun us σ H Q => ∃ ρ Z F ds, Sta X.K X.mg T ξ H Z F σ ρ ∧ RpL X.K X.mg H Z ds us ∧ ∃ ρ', b ds ρ = some ρ' ∧
  ∀ σ' H' Z' F', Out vs σ σ' → Ext H Z (own F) H' Z' (own F') → Sta X.K X.mg T ξ H' Z' F' σ' ρ' → Q σ' H'
abbrev DG (X : Cx) (T : Tab) (ξ : Xi) (vs : List Nat) (tg : Expr) (b : D → Ro → Option Ro) : Prop := PG X tg (tDG X T ξ vs b)
abbrev DGs (X : Cx) (T : Tab) (ξ : Xi) (vs : List Nat) (tg : List Expr) (b : List D → Ro → Option Ro) : Prop := PGs X tg (tDGs X T ξ vs b)
theorem _root_.L2.PG.to {X : Cx} {e : Expr} {t t' : TG} (h : PG X e t) (f : ∀ v σ H Q, t' v σ H Q → t v σ H Q) : PG X e t' := ⟨fun pins s σ H v u Q I r q => h.run pins s σ H v u Q I r (f v σ H Q q)⟩
theorem _root_.L2.PGs.to {X : Cx} {e : List Expr} {t t' : TGs} (h : PGs X e t) (f : ∀ v σ H Q, t' v σ H Q → t v σ H Q) : PGs X e t' := ⟨fun pins s σ H v u Q I r q => h.run pins s σ H v u Q I r (f v σ H Q q)⟩
@[simp] def bName (i : Nat) : D → Ro → Option Ro := fun d ρ => if i < ρ.length then some (ρ.set i (.dat d)) else none
theorem dg_name (i : Nat) {x : Str} {pos : Pos} (hN : X.N.Nodup) (hi : X.N[i]? = some x := by rfl) (hx : Loc X.env.scope x := by first | exact Or.inl rfl | exact Or.inr rfl) (hf : X.fn x = true ∨ X.env.scope.names.lookup x = some .local := by first | exact .inl rfl | exact .inr rfl) : DG X T ξ [i] (.Name x pos) (bName i) := by
  refine (pg_name hN hi hx hf).to fun v σ H Q ⟨ρ, Z, F, d, s, r, ρ', e, k⟩ => ?_
  unfold bName at e
  by_cases c : i < ρ.length
  · rw [if_pos c] at e
    cases e
    obtain ⟨s1, e1⟩ := s.putD c r
    exact k _ _ _ _ (.set (by simp)) e1 s1
  · rw [if_neg c] at e; cases e
@[simp] def bsNil : List D → Ro → Option Ro := fun ds ρ => match ds with
  | [] => some ρ
  | _ => none
@[simp] def bsCons (b : D → Ro → Option Ro) (bs : List D → Ro → Option Ro) : List D → Ro → Option Ro := fun ds ρ => match ds with
  | d :: ds => (b d ρ).bind (bs ds)
  | [] => none
theorem dgs_nil : DGs X T ξ [] [] bsNil := by
  refine pgs_nil.to fun us σ H Q ⟨ρ, Z, F, ds, s, r, ρ', e, k⟩ => ?_
  cases ds with
  | nil =>
    cases (show us = [] from r)
    cases e
    exact ⟨rfl, k _ _ _ _ (.refl _ _) (Ext.refl _ _ _) s⟩
  | cons _ _ => cases e
theorem dgs_cons {e : Expr} {es : List Expr} {vs ws : List Nat} {b : D → Ro → Option Ro} {bs : List D → Ro → Option Ro} (h1 : DG X T ξ vs e b) (h2 : DGs X T ξ ws es bs)
    (hs : (assignEach (e :: es) X.env).map (·.2) = assign e X.env :: (assignEach es X.env).map (·.2) := by rfl) : DGs X T ξ (vs ++ ws) (e :: es) (bsCons b bs) := by
  refine (pgs_cons h1 h2 hs).to fun us σ H Q ⟨ρ, Z, F, ds, s, r, ρ', e, k⟩ => ?_
  cases ds with
  | nil => cases e
  | cons d ds =>
    obtain ⟨v, us', rfl, r1, r2⟩ := r
    cases e1 : b d ρ with
    | none => simp only [bsCons, e1, Option.bind_none] at e; cases e
    | some ρ1 =>
      simp only [bsCons, e1, Option.bind_some] at e
      refine ⟨v, us', rfl, ρ, Z, F, d, s, r1, ρ1, e1, fun σ1 H1 Z1 F1 o1 x1 s1 => ?_⟩
      refine ⟨ρ1, Z1, F1, ds, s1, r2.ext x1 s.dz, ρ', e, fun σ2 H2 Z2 F2 o2 x2 s2 => ?_⟩
      exact k σ2 H2 Z2 F2 ((o1.mono fun i h => List.mem_append_left _ h).trans (o2.mono fun i h => List.mem_append_right _ h)) (x1.trans x2) s2
@[simp] def bTup (n : Nat) (bs : List D → Ro → Option Ro) : D → Ro → Option Ro := fun d ρ => match d with
  | .tup ds => if ds.length = n then bs ds ρ else none
  | _ => none
theorem dg_tup {es : List Expr} {k : Nat} {n : Nat} {vs : List Nat} {bs : List D → Ro → Option Ro} {pos : Pos} (hc : X.calm = true) (h : DGs X T ξ vs es bs)
    (hn : (assignEach es X.env).length = n := by rfl) (hst : (assignEach es X.env).findIdx? (·.1) = none := by rfl) : DG X T ξ vs (.Tuple es k pos) (bTup n bs) := by
  refine (pg_tup hc h hn hst).to fun v σ H Q ⟨ρ, Z, F, d, s, r, ρ', e, k⟩ => ?_
  cases d with
  | tup ds =>
    obtain ⟨p, us, rfl, t, r, _⟩ := r
    by_cases c : ds.length = n
    · simp only [bTup, if_pos c] at e
      exact ⟨p, us, rfl, t.sq, r.length.trans c, ρ, Z, F, ds, s, r, ρ', e, k⟩
    · simp only [bTup, if_neg c] at e; cases e
  | _ => cases e

/-! ### 17. comprehensions -/
@[simp] def wipeR (ρ : Ro) : List Nat → Ro
  | [] => ρ
  | v :: vs => (wipeR ρ vs).set v .no
theorem wipeR_length (ρ : Ro) : ∀ vs : List Nat, (wipeR ρ vs).length = ρ.length
  | [] => rfl
  | v :: vs => by unfold wipeR; rw [List.length_set, wipeR_length ρ vs]
theorem wipeR_getD (ρ : Ro) (j : Nat) : ∀ vs : List Nat, (wipeR ρ vs).getD j .no = if j ∈ vs then .no else ρ.getD j .no
  | [] => by simp [wipeR]
  | v :: vs => by
    unfold wipeR
    by_cases hv : v < (wipeR ρ vs).length
    · rw [getD_set hv, wipeR_getD ρ j vs]
      by_cases e : j = v
      · subst e; simp
      · simp [e]
    · rw [List.set_eq_of_length_le (by omega), wipeR_getD ρ j vs]
      by_cases e : j = v
      · subst e
        rw [wipeR_length] at hv
        have : ρ.getD j .no = .no := by rw [List.getD_eq_getElem?_getD, List.getElem?_eq_none (by omega)]; rfl
        rw [this]
        by_cases c : j ∈ vs <;> simp [c]
      · simp [e]
theorem wipe_getD (σ : L2.St) (j : Nat) : ∀ vs : List Nat, (wipe σ vs).getD j none = if j ∈ vs then none else σ.getD j none
  | [] => by simp [wipe]
  | v :: vs => by
    unfold wipe
    by_cases hv : v < (wipe σ vs).length
    · rw [getD_set hv, wipe_getD σ j vs]
      by_cases e : j = v
      · subst e; simp
      · simp [e]
    · rw [List.set_eq_of_length_le (by omega), wipe_getD σ j vs]
      by_cases e : j = v
      · subst e
        rw [wipe_length] at hv
        have : σ.getD j none = none := by rw [List.getD_eq_getElem?_getD, List.getElem?_eq_none (by omega)]; rfl
        rw [this]
        by_cases c : j ∈ vs <;> simp [c]
      · simp [e]
def wipeF (F : F1) (vs : List Nat) : F1 := fun j => if j ∈ vs then fun _ => False else F j
theorem own_wipeF {vs : List Nat} {a : Addr} (h : own (wipeF F vs) a) : own F a := by
  obtain ⟨j, h⟩ := h
  unfold wipeF at h
  by_cases c : j ∈ vs
  · rw [if_pos c] at h; exact h.elim
  · rw [if_neg c] at h; exact ⟨j, h⟩
theorem wipeF_of {vs : List Nat} {j : Nat} {a : Addr} (h : wipeF F vs j a) : F j a := by
  unfold wipeF at h
  by_cases c : j ∈ vs
  · rw [if_pos c] at h; exact h.elim
  · rw [if_neg c] at h; exact h
theorem Sta.wiped (s : Sta X.K X.mg T ξ H Z F σ ρ) (vs : List Nat) : Sta X.K X.mg T ξ H Z (wipeF F vs) (wipe σ vs) (wipeR ρ vs) where
  rep := fun j => by
    rw [wipeR_getD, wipe_getD]
    unfold wipeF
    by_cases c : j ∈ vs
    · rw [if_pos c, if_pos c, if_pos c]
      exact fun _ z => z
    · rw [if_neg c, if_neg c, if_neg c]
      exact s.rep j
  dj := fun i j a n h1 h2 => s.dj i j a n (wipeF_of h1) (wipeF_of h2)
  ln := by rw [wipeR_length, wipe_length]; exact s.ln
  zf := fun j a h => s.zf j a (wipeF_of h)
  zh := s.zh
/-- slots of names forgotten, the rest as told -/
theorem Sta.wipedR (s : Sta X.K X.mg T ξ H Z F σ ρ) (vs : List Nat) : Sta X.K X.mg T ξ H Z (wipeF F vs) σ (wipeR ρ vs) where
  rep := fun j => by
    rw [wipeR_getD]
    unfold wipeF
    by_cases c : j ∈ vs
    · rw [if_pos c, if_pos c]
      exact fun _ z => z
    · rw [if_neg c, if_neg c]
      exact s.rep j
  dj := fun i j a n h1 h2 => s.dj i j a n (wipeF_of h1) (wipeF_of h2)
  ln := by rw [wipeR_length]; exact s.ln
  zf := fun j a h => s.zf j a (wipeF_of h)
  zh := s.zh
theorem wipe_ext {vs : List Nat} {σ σ' : L2.St} (h : Out vs σ σ') : wipe σ' vs = wipe σ vs := by
  refine List.ext_getElem? fun j => ?_
  by_cases hj : j < σ.length
  · have g1 : j < (wipe σ vs).length := by rw [wipe_length]; exact hj
    have g2 : j < (wipe σ' vs).length := by rw [wipe_length, h.1]; exact hj
    have e1 := wipe_getD σ j vs
    have e2 := wipe_getD σ' j vs
    rw [List.getD_eq_getElem?_getD, List.getElem?_eq_getElem g1] at e1
    rw [List.getD_eq_getElem?_getD, List.getElem?_eq_getElem g2] at e2
    rw [List.getElem?_eq_getElem g1, List.getElem?_eq_getElem g2]
    congr 1
    show (some (wipe σ' vs)[j]).getD none = (some (wipe σ vs)[j]).getD none
    rw [e1, e2]
    by_cases c : j ∈ vs
    · rw [if_pos c, if_pos c]
    · rw [if_neg c, if_neg c, List.getD_eq_getElem?_getD, List.getD_eq_getElem?_getD, h.2 j c]
  · rw [List.getElem?_eq_none (by rw [wipe_length, h.1]; omega), List.getElem?_eq_none (by rw [wipe_length]; omega)]
theorem wipe_wipe (vs : List Nat) (σ : L2.St) : wipe (wipe σ vs) vs = wipe σ vs := wipe_ext ⟨wipe_length σ vs, fun j h => wipe_out h⟩
@[simp] def datOnly : Sl → Sl
  | .dat d => .dat d
  | _ => .no
@[simp] def restR (ρ1 : Ro) (ρ2 : Ro) : List Nat → Ro
  | [] => ρ2
  | v :: vs => (restR ρ1 ρ2 vs).set v (datOnly (ρ1.getD v .no))
theorem restR_length (ρ1 ρ2 : Ro) : ∀ vs : List Nat, (restR ρ1 ρ2 vs).length = ρ2.length
  | [] => rfl
  | v :: vs => by unfold restR; rw [List.length_set, restR_length ρ1 ρ2 vs]
theorem restR_getD (ρ1 ρ2 : Ro) (hl : ρ1.length = ρ2.length) (j : Nat) : ∀ vs : List Nat, (restR ρ1 ρ2 vs).getD j .no = if j ∈ vs then datOnly (ρ1.getD j .no) else ρ2.getD j .no
  | [] => by simp [restR]
  | v :: vs => by
    unfold restR
    by_cases hv : v < (restR ρ1 ρ2 vs).length
    · rw [getD_set hv, restR_getD ρ1 ρ2 hl j vs]
      by_cases e : j = v
      · subst e; simp
      · simp [e]
    · rw [List.set_eq_of_length_le (by omega), restR_getD ρ1 ρ2 hl j vs]
      by_cases e : j = v
      · subst e
        rw [restR_length] at hv
        have h1 : ρ1.getD j .no = .no := by rw [List.getD_eq_getElem?_getD, List.getElem?_eq_none (by omega)]; rfl
        have h2 : ρ2.getD j .no = .no := by rw [List.getD_eq_getElem?_getD, List.getElem?_eq_none (by omega)]; rfl
        rw [h1, h2]
        by_cases c : j ∈ vs <;> simp [c, datOnly]
      · simp [e]
theorem Sta.rest {H0 : Hp} {Z0 : Z1} {F0 : F1} {ρ0 : Ro} {vs : List Nat} (s0 : Sta X.K X.mg T ξ H0 Z0 F0 σ ρ0) (k : Kp H0 Z0 H) (zz : ∀ a, Z0 a → Z a) (s : Sta X.K X.mg T ξ H Z F (wipe σ vs) ρ) (hl : ρ0.length = ρ.length) :
    Sta X.K X.mg T ξ H Z (wipeF F vs) σ (restR ρ0 ρ vs) where
  rep := fun j => by
    rw [restR_getD _ _ hl]
    unfold wipeF
    by_cases c : j ∈ vs
    · rw [if_pos c, if_pos c]
      have r := s0.rep j
      cases e : ρ0.getD j .no with
      | dat d =>
        rw [e] at r
        obtain ⟨⟨v, e1, r⟩, _⟩ := r
        exact ⟨⟨v, e1, Rp.mono k zz _ _ r⟩, fun _ z => z⟩
      | _ => exact fun _ z => z
    · rw [if_neg c, if_neg c]
      have r := s.rep j
      rw [wipe_getD, if_neg c] at r
      exact r
  dj := fun i j a n h1 h2 => s.dj i j a n (wipeF_of h1) (wipeF_of h2)
  ln := by rw [restR_length, s.ln, wipe_length]
  zf := fun j a h => s.zf j a (wipeF_of h)
  zh := s.zh
/-- a heap that differs at a place that is nobody's -/
theorem Sta.other (s : Sta X.K X.mg T ξ H Z F σ ρ) {p : Addr} (h : ∀ b, b ≠ p → H' b = H b) (nz : ¬ Z p) (no : ¬ own F p) (nf : ∀ o u, H p ≠ some (.frz o u)) : Sta X.K X.mg T ξ H' Z F σ ρ where
  rep := fun j => (s.rep j).mono (fun b o e z => (h b fun q => nz (q ▸ z)).trans e) (fun b o u e => (h b fun q => nf o u (q ▸ e)).trans e) (fun _ z => z) fun a pa => h a fun q => no ⟨j, q ▸ pa⟩
  dj := s.dj
  ln := s.ln
  zf := s.zf
  zh := fun a z => let ⟨o, e⟩ := s.zh a z; ⟨o, (h a fun q => nz (q ▸ z)).trans e⟩
theorem RpL.other {p : Addr} {ds : List D} {vs : List V} (h : ∀ b, b ≠ p → H' b = H b) (nz : ¬ Z p) (r : RpL X.K X.mg H Z ds vs) : RpL X.K X.mg H' Z ds vs :=
  RpL.mono (fun b o e z => (h b fun q => nz (q ▸ z)).trans e) (fun _ z => z) ds vs r
theorem Rp.other {p : Addr} {d : D} {v : V} (h : ∀ b, b ≠ p → H' b = H b) (nz : ¬ Z p) (r : Rp X.K X.mg H Z d v) : Rp X.K X.mg H' Z d v :=
  Rp.mono (fun b o e z => (h b fun q => nz (q ▸ z)).trans e) (fun _ z => z) d v r
/-- one place more is owned -/
theorem Ext.with {O O' : Z1} (p : Addr) (e : Ext H Z O H' Z' O') : Ext H Z (fun a => O a ∨ a = p) H' Z' (fun a => O' a ∨ a = p) where
  keep := fun b o h n => e.keep b o h fun q => n (.inl q)
  zz := e.zz
  oo := fun a h => h.elim (fun q => (e.oo a q).elim (fun x => .inl (.inl x)) .inr) fun q => .inl (.inr q)
  zo := fun a h => (e.zo a h).elim .inl fun q => q.elim (fun x => .inr (.inl (.inl x))) fun x => .inr (.inr x)
theorem Ext.setp {O : Z1} {p : Addr} {o : HO} (h : (H p).isSome) : Ext H Z (fun a => O a ∨ a = p) (upd H p o) Z (fun a => O a ∨ a = p) where
  keep := fun b u hb n => by rw [upd_ne fun q => n (.inr q)]; exact hb
  zz := fun _ z => z
  oo := fun _ z => .inl z
  zo := fun _ z => .inl z
def lcGo (vs : List Nat) (b : D → Ro → Option Ro) (tt : Fr Bool) (te : Fr D) : List D → List D → Ro → Option (List D × Ro)
  | [], acc, ρ => some (acc, ρ)
  | d :: ds, acc, ρ => match b d ρ with
    | none => none
    | some ρ2 => match tt ρ2 with
      | .ok true ρ3 => match te ρ3 with
        | .ok y ρ4 => lcGo vs b tt te ds (acc ++ [y]) (wipeR ρ4 vs)
        | _ => none
      | .ok false ρ3 => lcGo vs b tt te ds acc (wipeR ρ3 vs)
      | _ => none
@[simp] def fLc (vs : List Nat) (src : Fr (List D)) (b : D → Ro → Option Ro) (tt : Fr Bool) (te : Fr D) : Fr (List D) := fun ρ => (src ρ).bind fun ds ρ1 => match lcGo vs b tt te ds [] (wipeR ρ1 vs) with
  | some (ys, ρ2) => .ok ys (restR ρ1 ρ2 vs)
  | none => .st
def W0 : WX := fun _ _ _ _ => False
def del1 (H : Hp) (a : Addr) : Hp := fun b => if b = a then none else H b
theorem del1_ne {a b : Addr} (h : b ≠ a) : del1 H a b = H b := if_neg h
theorem del1_same {a : Addr} : del1 H a a = none := if_pos rfl
/-- the state of a comprehension's block ahead of turn i -/
structure LcI (X : Cx) (T : Tab) (ξ : Xi) (σ : L2.St) (vs : List Nat) (b : D → Ro → Option Ro) (tt : Fr Bool) (te : Fr D) (ds ys : List D) (ρe : Ro) (n : Nat) (H1 : Hp) (Za : Addr → Prop) (Oa : Addr → Prop) (p : Addr) (i : Nat) (H : Hp) : Prop where
  ex : ∃ ρ Z F acc us, Ext H1 Za Oa H Z (fun a => own F a ∨ a = p) ∧ Sta X.K X.mg T ξ H Z F (wipe σ vs) ρ ∧ H p = some (.lst us) ∧ RpL X.K X.mg H Z acc us ∧ ¬ Z p ∧ ¬ own F p ∧ acc.length ≤ i ∧ lcGo vs b tt te (ds.drop i) acc ρ = some (ys, ρe) ∧ ρ.length = n
theorem LcI.of {X : Cx} {T : Tab} {ξ : Xi} {σ : L2.St} {vs : List Nat} {b : D → Ro → Option Ro} {tt : Fr Bool} {te : Fr D} {ds ys : List D} {ρe : Ro} {n : Nat} {H1 : Hp} {Za : Addr → Prop} {Oa : Addr → Prop} {p : Addr} {i : Nat} {H : Hp} {ρ : Ro} {Z : Addr → Prop} {F : F1} {acc : List D} {us : List V}
    (e : Ext H1 Za Oa H Z (fun a => own F a ∨ a = p)) (s : Sta X.K X.mg T ξ H Z F (wipe σ vs) ρ) (hp : H p = some (.lst us)) (r : RpL X.K X.mg H Z acc us) (nz : ¬ Z p) (no : ¬ own F p) (hl : acc.length ≤ i) (g : lcGo vs b tt te (ds.drop i) acc ρ = some (ys, ρe)) (hn : ρ.length = n) :
    LcI X T ξ σ vs b tt te ds ys ρe n H1 Za Oa p i H := ⟨ρ, Z, F, acc, us, e, s, hp, r, nz, no, hl, g, hn⟩
theorem Ext.kp {O O' : Z1} (e : Ext H Z O H' Z' O') (dz : ∀ a, Z a → ¬ O a) : Kp H Z H' := fun b o h z => e.keep b o h (dz b z)
theorem lc_imp {vs : List Nat} {f : Fr (List D)} {b : D → Ro → Option Ro} {tt : Fr Bool} {te : Fr D} {Q : VK} (h : tDN X T ξ W (fLc vs f b tt te) σ H Q) : tLc (tDI X T ξ W f) (tDG X T ξ vs b) (tDT X T ξ W0 tt) (tDE X T ξ W0 te) vs σ H Q := by
  obtain ⟨ρ, Z, F, s, h⟩ := h
  refine ⟨ρ, Z, F, s, (Pst.bind h).imp fun ds ρ1 H1 Z1 F1 e1 s1 q1 hlen J wk p hp => ?_⟩
  cases hgo : lcGo vs b tt te ds [] (wipeR ρ1 vs) with
  | none => simp only [hgo] at q1; exact q1.elim
  | some r =>
    obtain ⟨ys, ρe⟩ := r
    simp only [hgo] at q1
    have nz1 : ¬ Z1 p := fun z => by obtain ⟨o, e⟩ := s1.zh p z; rw [hp] at e; cases e
    have no1 : ¬ own F1 p := fun z => by obtain ⟨o, e⟩ := s1.has z; rw [hp] at e; cases e
    refine ⟨fun i m H => m = ds.length - i ∧ i ≤ ds.length ∧ LcI X T ξ σ vs b tt te ds ys ρe ρ1.length H1 Z1 (fun a => own F1 a) p i H, ⟨ds.length, by simp, Nat.zero_le _, ?_⟩, ?_⟩
    · refine .of (ρ := wipeR ρ1 vs) (Z := Z1) (F := wipeF F1 vs) (acc := []) (us := []) ?_ ?_ upd_same rfl nz1 (fun z => no1 (own_wipeF z)) (Nat.le_refl _) (by simpa using hgo) (wipeR_length _ _)
      · exact ⟨fun b o hb _ => by rw [upd_ne (ne_of_none hb hp)]; exact hb, fun _ z => z, fun a z => z.elim (fun q => .inl (own_wipeF q)) fun q => .inr (q ▸ hp), fun _ z => .inl z⟩
      · exact (s1.wiped vs).other (fun b n => upd_ne n) nz1 (fun z => no1 (own_wipeF z)) (fun o u e => by rw [hp] at e; cases e)
    · rintro i m H2 ⟨rfl, hil, ⟨ρ2, Z2, F2, acc, us, e2, s2, hp2, r2, nz2, no2, hal, hgo2, hln2⟩⟩
      have kp2 : Kp H1 Z1 H2 := e2.kp s1.dz
      by_cases hlt : i < ds.length
      · -- one turn
        refine .inr ⟨wk.go i ds[i] H2 kp2 (List.getElem?_eq_getElem hlt), fun H' => i + 1 ≤ ds.length ∧ LcI X T ξ σ vs b tt te ds ys ρe ρ1.length H1 Z1 (fun a => own F1 a) p (i + 1) H', fun H' ⟨g1, g2⟩ => ⟨_, by omega, rfl, g1, g2⟩, fun x H3 y3 => ?_⟩
        obtain ⟨Z3, e3, zh3, rx⟩ := wk.yld i ds[i] H2 x H3 Z2 kp2 e2.zz s2.zh (List.getElem?_eq_getElem hlt) y3
        have s3 := s2.grow e3 zh3
        have hp3 : H3 p = some (.lst us) := e3.keep p _ hp2 fun z => z
        have nz3 : ¬ Z3 p := fun z => (e3.zo p z).elim nz2 fun q => q.elim (fun x => x) fun n => by rw [hp2] at n; cases n
        have e23 : Ext H1 Z1 (fun a => own F1 a) H3 Z3 (fun a => own F2 a ∨ a = p) := e2.trans ((e3.grow (O := fun a => own F2 a ∨ a = p)).sub fun _ z => .inl z)
        have hd : ds.drop i = ds[i] :: ds.drop (i + 1) := List.drop_eq_getElem_cons hlt
        rw [hd] at hgo2
        unfold lcGo at hgo2
        cases hb : b ds[i] ρ2 with
        | none => simp only [hb] at hgo2; cases hgo2
        | some ρ3 =>
          simp only [hb] at hgo2
          refine ⟨ρ2, Z3, F2, ds[i], s3, rx, ρ3, hb, fun σ4 H4 Z4 F4 o4 e4 s4 => ?_⟩
          have hw4 : wipe σ4 vs = wipe σ vs := (wipe_ext o4).trans (wipe_wipe vs σ)
          have r3 : RpL X.K X.mg H3 Z3 acc us := r2.ext (e3.grow (O := own F2)) s2.dz
          have hp4 : H4 p = some (.lst us) := e4.keep p _ hp3 no2
          have fz4 : ∀ {Hb Zb Ob}, Ext H3 Z3 (own F2) Hb Zb Ob → ¬ Zb p ∧ ¬ Ob p := fun e => ⟨fun z => (e.zo p z).elim nz3 fun q => q.elim no2 fun n => (by rw [hp3] at n; cases n), fun z => (e.oo p z).elim no2 fun n => (by rw [hp3] at n; cases n)⟩
          refine ⟨hw4, ρ3, Z4, F4, s4, ?_⟩
          cases htt : tt ρ3 with
          | ex _ _ _ => simp only [htt] at hgo2; cases hgo2
          | st => simp only [htt] at hgo2; cases hgo2
          | ok c ρ4 =>
            simp only [htt] at hgo2
            intro H5 Z5 F5 e5 s5
            have e35 := e4.trans e5
            have r5 : RpL X.K X.mg H5 Z5 acc us := r3.ext e35 s3.dz
            have hp5 : H5 p = some (.lst us) := e35.keep p _ hp3 no2
            cases c with
            | false =>
              simp only at hgo2
              show i + 1 ≤ ds.length ∧ _
              have s5' : Sta X.K X.mg T ξ H5 Z5 (wipeF F5 vs) (wipe σ vs) (wipeR ρ4 vs) := by
                rw [← hw4]
                exact s5.wiped vs
              refine ⟨hlt, .of (ρ := wipeR ρ4 vs) (Z := Z5) (F := wipeF F5 vs) ((e23.trans (e35.with p)).sub fun a z => z.imp own_wipeF id) s5' hp5 r5 (fz4 e35).1 (fun z => (fz4 e35).2 (own_wipeF z)) (by omega) hgo2 ?_⟩
              · rw [wipeR_length, s5.ln, o4.1, wipe_length, s1.ln]
            | true =>
              simp only at hgo2
              refine ⟨ρ4, Z5, F5, s5, ?_⟩
              cases hte : te ρ4 with
              | ex _ _ _ => simp only [hte] at hgo2; cases hgo2
              | st => simp only [hte] at hgo2; cases hgo2
              | ok y ρ5 =>
                simp only [hte] at hgo2
                intro H6 Z6 F6 e6 s6 v rv
                have e36 := e35.trans e6
                have r6 : RpL X.K X.mg H6 Z6 acc us := r3.ext e36 s3.dz
                have hp6 : H6 p = some (.lst us) := e36.keep p _ hp3 no2
                obtain ⟨nz6, no6⟩ := fz4 e36
                refine ⟨us, hp6, by rw [r6.length]; omega, ?_⟩
                show i + 1 ≤ ds.length ∧ _
                have oth : ∀ q, q ≠ p → upd H6 p (.lst (us ++ [v])) q = H6 q := fun q n => upd_ne n
                have s6' : Sta X.K X.mg T ξ H6 Z6 (wipeF F6 vs) (wipe σ vs) (wipeR ρ5 vs) := by
                  rw [← hw4]
                  exact s6.wiped vs
                refine ⟨hlt, .of (ρ := wipeR ρ5 vs) (Z := Z6) (F := wipeF F6 vs) (acc := acc ++ [y]) (us := us ++ [v]) ?_ ?_ upd_same ?_ nz6 (fun z => no6 (own_wipeF z)) (by rw [List.length_append, List.length_singleton]; omega) hgo2 ?_⟩
                · exact ((e23.trans (e36.with p)).trans (Ext.setp (O := own F6) (p := p) (by rw [hp6]; rfl))).sub fun a z => z.imp own_wipeF id
                · exact s6'.other oth nz6 (fun z => no6 (own_wipeF z)) (fun o u e => by rw [hp6] at e; cases e)
                · exact (r6.app (RpL.one rv)).other oth nz6
                · rw [wipeR_length, s6.ln, o4.1, wipe_length, s1.ln]
      · -- the end
        have hie : i = ds.length := by omega
        subst hie
        rw [List.drop_length] at hgo2
        simp only [lcGo, Option.some.injEq, Prod.mk.injEq] at hgo2
        obtain ⟨rfl, rfl⟩ := hgo2
        refine .inl ⟨wk.stop _ H2 kp2 (Nat.le_refl _), ?_⟩
        have oth : ∀ q, q ≠ p → del1 H2 p q = H2 q := fun q n => del1_ne n
        have sd : Sta X.K X.mg T ξ (del1 H2 p) Z2 F2 (wipe σ vs) ρ2 := s2.other oth nz2 no2 (fun o u e => by rw [hp2] at e; cases e)
        have kd : Kp H1 Z1 (del1 H2 p) := fun q o hq z => (oth q fun e => by rw [e, hp] at hq; cases hq).trans (kp2 q o hq z)
        refine q1 (del1 H2 p) Z2 (wipeF F2 vs) ?_ (s1.rest kd e2.zz sd hln2.symm) p us H2 hp2 (fun q n => (oth q n).symm) del1_same (r2.other oth nz2) (Nat.le_trans hal hlen)
        exact ⟨fun q o hq n => (oth q fun e => by rw [e, hp] at hq; cases hq).trans (e2.keep q o hq n), e2.zz, fun a z => e2.oo a (.inl (own_wipeF z)), e2.zo⟩
theorem dn_lc {elt tg iter : Expr} {ifs : List Expr} {scope : Scope} {own' : List (Str × Nat)} {pos : Pos} {f : Fr (List D)} {b : D → Ro → Option Ro} {tt : Fr Bool} {te : Fr D} (hc : X.calm = true) (hN : X.N.Nodup) (hi : DI X T ξ W tg iter f) (ok : BlkOk X.N X.env.scope scope own')
    (hg : ∀ (s : Shared) (H : Hp) (C : Addr) (cl : List (Str × Addr)) (fp : List Addr), DG (X.blk s H scope (compEnvC scope cl C X.env) fp) T ξ (own'.map (·.2)) tg b)
    (ht : ∀ (s : Shared) (H : Hp) (C : Addr) (cl : List (Str × Addr)) (fp : List Addr), PTs (X.blk s H scope (compEnvC scope cl C X.env) fp) ifs (tDT (X.blk s H scope (compEnvC scope cl C X.env) fp) T ξ W0 tt))
    (he : ∀ (s : Shared) (H : Hp) (C : Addr) (cl : List (Str × Addr)) (fp : List Addr), DE (X.blk s H scope (compEnvC scope cl C X.env) fp) T ξ W0 elt te) (hs : ∀ x, foldedSetIterable iter X.env x = pure x := by intro _; rfl) :
    DN X T ξ W (.ListComp elt [⟨tg, iter, ifs, 0⟩] scope pos) (fLc (own'.map (·.2)) f b tt te) := by
  generalize hvs : own'.map (fun q : Str × Nat => q.2) = vs at *
  have hg' : ∀ (s : Shared) (H : Hp) (C : Addr) (cl : List (Str × Addr)) (fp : List Addr), PG (X.blk s H scope (compEnvC scope cl C X.env) fp) tg (tDG X T ξ vs b) := hg
  have core := pe_lc (pos := pos) (wi := tDI X T ξ W f) (g := tDG X T ξ vs b) (tt := tDT X T ξ W0 tt) (te := tDE X T ξ W0 te) hc hN hi ok hg' ht he hs
  rw [show own'.map (·.2) = vs from hvs] at core
  exact core.to fun σ H Q h => lc_imp h
end
end Dt
/-! enumerate of a tuple -/
namespace Dt
open PySem PySem.Spec PyProof.Rows L2
section
variable {P : Program} {w : World} {A : Around} {E : Value → Shared → Prop} {s : Shared}
theorem enT_next {eA iA lA : Addr} {n : Nat} {its : Array Value} {vx vo : Value} {Q : Value → Shared → Prop}
    (kE : IsEnum s.heap eA iA n vo) (kI : s.heap.IsTupleIter iA lA n) (kL : s.heap.IsTuple lA its) (kx : its[n]? = some vx) (ne : eA ≠ iA)
    (kQ : ∀ g', IsEnumOut g' eA iA ((n : Int) + 1) vx s.heap.objs.size → g'.IsTupleIter iA lA (n + 1) →
      g'.get? s.heap.objs.size = some { cls := .type "tuple", data := .seq #[.int n s.toks, vx] } → g'.objs.size = s.heap.objs.size + 1 →
      (∀ c u, c ≠ eA → c ≠ iA → s.heap.get? c = some u → g'.get? c = some u) → Q (.ref s.heap.objs.size) { s with heap := g', toks := s.toks + 1 }) :
    wpAny (model P w) A (Builtin.«enumerate.__next__» ⟨[.ref eA], []⟩) (fun fin s' => ∃ v, fin = .done (.ret v) ∧ Q v s') E s := by
  obtain ⟨h0, gl, dd, tk, oo⟩ := s
  show wpAny _ _ (field (.ref eA) 2 >>= _) _ _ _
  refine wpAny_bind (wpAny_field kE rfl (x := .ref iA) rfl ?_)
  refine wpAny_bind (RZ.nextOf_tuple_item kI kL kx fun h1 kI1 b1 => ?_)
  replace b1 : Heap.SameBut iA h0 h1 := b1
  have kE1 : IsEnum h1 eA iA n vo := (b1.2 eA ne).trans kE
  show wpAny _ _ (field (.ref eA) 3 >>= _) _ _ ⟨h1, gl, dd, tk, oo⟩
  refine wpAny_bind (wpAny_field kE1 rfl (x := rawInt n) rfl ?_)
  show wpAny _ _ (field (.ref eA) 4 >>= _) _ _ ⟨h1, gl, dd, tk, oo⟩
  refine wpAny_bind (wpAny_field kE1 rfl (x := .none) rfl ?_)
  show wpAny _ _ (mkInt n >>= _) _ _ ⟨h1, gl, dd, tk, oo⟩
  refine wpAny_bind (wpAny_mkInt ?_)
  show wpAny _ _ (setField (.ref eA) 3 (rawInt ((n : Int) + 1)) >>= _) _ _ ⟨h1, gl, dd, tk + 1, oo⟩
  refine wpAny_bind (wpAny_setField_rec kE1 (by simp) fun h2 kE2 b2 => ?_)
  replace b2 : Heap.SameBut eA h1 h2 := b2
  replace kE2 : IsEnum h2 eA iA ((n : Int) + 1) vo := kE2
  show wpAny _ _ (setField (.ref eA) 4 .none >>= _) _ _ ⟨h2, gl, dd, tk + 1, oo⟩
  refine wpAny_bind (wpAny_setField_rec kE2 (by simp) fun h3 kE3 b3 => ?_)
  replace b3 : Heap.SameBut eA h2 h3 := b3
  replace kE3 : IsEnum h3 eA iA ((n : Int) + 1) vo := kE3
  show wpAny _ _ (newTuple [.int n tk, vx] >>= _) _ _ ⟨h3, gl, dd, tk + 1, oo⟩
  refine wpAny_bind (wpAny_newTuple ?_)
  have kE4 : IsEnum (h3.push { cls := .type "tuple", data := .seq #[.int n tk, vx] }) eA iA ((n : Int) + 1) vo := Heap.get?_push_of_some _ kE3
  generalize q4 : h3.push { cls := .type "tuple", data := .seq #[.int n tk, vx] } = h4 at kE4
  have z3 : h3.objs.size = h0.objs.size := by rw [b3.1, b2.1, b1.1]
  have le : eA < h0.objs.size := Heap.lt_size kE
  have T4 : h4.get? h0.objs.size = some { cls := .type "tuple", data := .seq #[.int n tk, vx] } := by rw [← q4, ← z3]; exact Heap.get?_push_size _ rfl
  have z4 : h4.objs.size = h0.objs.size + 1 := by rw [← q4, Heap.size_push, z3]
  have k4 : ∀ c u, c ≠ eA → c ≠ iA → h0.get? c = some u → h4.get? c = some u := fun c u n1 n2 e => by
    rw [← q4]; exact Heap.get?_push_of_some _ (b3.extBut c u n1 (b2.extBut c u n1 (b1.extBut c u n2 e)))
  have kI4 : h4.IsTupleIter iA lA (n + 1) := kI1.at fun u e => by
    rw [← q4]; exact Heap.get?_push_of_some _ (b3.extBut iA u (Ne.symm ne) (b2.extBut iA u (Ne.symm ne) e))
  show wpAny _ _ (Builtin.SmallTypes.ownedTupleIsFree (.ref eA) >>= _) _ _ ⟨h4, gl, dd, tk + 1, oo⟩
  rw [z3]
  clear q4 kE3 b3 kE2 b2 kE1 b1 kI1 z3 h3 h2 h1
  refine wpAny_bind ?_
  unfold Builtin.SmallTypes.ownedTupleIsFree
  refine wpAny_bind (wpAny_field kE4 rfl (x := .none) rfl (wpAny_pure ?_))
  simp only [if_true]
  refine wpAny_bind (wpAny_rule ?_)
  refine wpAny_bind (wpAny_field kE4 rfl (x := vo) rfl ?_)
  refine wpAny_bind (wpAny_setField_rec kE4 (by simp) fun h5 kE5 b5 => ?_)
  replace b5 : Heap.SameBut eA h4 h5 := b5
  replace kE5 : IsEnum h5 eA iA ((n : Int) + 1) vx := kE5
  show wpAny _ _ (Builtin.SmallTypes.ownedTupleHandOut (.ref eA) (.ref h0.objs.size) >>= _) _ _ ⟨h5, gl, dd, tk + 1, oo⟩
  refine wpAny_bind ?_
  unfold Builtin.SmallTypes.ownedTupleHandOut
  refine wpAny_bind (wpAny_setField_rec kE5 (by simp) fun h6 kE6 b6 => ?_)
  replace b6 : Heap.SameBut eA h5 h6 := b6
  replace kE6 : IsEnumOut h6 eA iA ((n : Int) + 1) vx h0.objs.size := kE6
  refine wpAny_setField_rec kE6 (by simp) fun h7 kE7 b7 => ?_
  replace b7 : Heap.SameBut eA h6 h7 := b7
  replace kE7 : IsEnumOut h7 eA iA ((n : Int) + 1) vx h0.objs.size := kE7
  have up : ∀ c u, c ≠ eA → h4.get? c = some u → h7.get? c = some u := fun c u n1 e => b7.extBut c u n1 (b6.extBut c u n1 (b5.extBut c u n1 e))
  refine wpAny_bind (wpAny_letGo (wpAny_pure ⟨_, rfl, kQ h7 kE7 (kI4.at fun u e => up iA u (Ne.symm ne) e) (up _ _ (Nat.ne_of_gt le) T4) (by rw [b7.1, b6.1, b5.1, z4]) fun c u n1 n2 e => up c u n1 (k4 c u n1 n2 e)⟩))
theorem enT_item {eA iA lA : Addr} {n : Nat} {its : Array Value} {vx vo : Value} {Q : Option Value → Shared → Prop}
    (kE : IsEnum s.heap eA iA n vo) (kI : s.heap.IsTupleIter iA lA n) (kL : s.heap.IsTuple lA its) (kx : its[n]? = some vx) (ne : eA ≠ iA)
    (kQ : ∀ g', IsEnumOut g' eA iA ((n : Int) + 1) vx s.heap.objs.size → g'.IsTupleIter iA lA (n + 1) →
      g'.get? s.heap.objs.size = some { cls := .type "tuple", data := .seq #[.int n s.toks, vx] } → g'.objs.size = s.heap.objs.size + 1 →
      (∀ c u, c ≠ eA → c ≠ iA → s.heap.get? c = some u → g'.get? c = some u) → Q (some (.ref s.heap.objs.size)) { s with heap := g', toks := s.toks + 1 }) :
    wpAny (model P w) A (pyNext (.ref eA)) Q E s := by
  have ty : s.TypeIs (.ref eA) "enumerate" := ⟨_, kE, rfl⟩
  unfold pyNext
  refine wpAny_bind (wpAny_attempt (wpAny_callSpecial?_slot (name := Str.ofString "__next__") ty F.slot_enumerate_next ?_))
  exact wpAny_call_entry F.slot_enumerate_next ty F.entry_enumerate_next (enT_next kE kI kL kx ne fun g' a b c d k => wpAny_pure (kQ g' a b c d k)) (F.args_enumerate_next_1 _)
theorem enT_end {eA iA lA : Addr} {n : Nat} {its : Array Value} {vo : Value} {Q : Option Value → Shared → Prop} (hh : A.handled = none)
    (kE : IsEnum s.heap eA iA n vo) (kI : s.heap.IsTupleIter iA lA n) (kL : s.heap.IsTuple lA its) (kx : its[n]? = none)
    (kQ : ∀ g', Heap.ExtBut iA s.heap g' → Q none { s with heap := g' }) : wpAny (model P w) A (pyNext (.ref eA)) Q E s := by
  have ty : s.TypeIs (.ref eA) "enumerate" := ⟨_, kE, rfl⟩
  unfold pyNext
  refine wpAny_bind (wpAny_attempt (wpAny_callSpecial?_slot (name := Str.ofString "__next__") ty F.slot_enumerate_next ?_))
  refine wpAny_call_entry F.slot_enumerate_next ty F.entry_enumerate_next ?_ (F.args_enumerate_next_1 _)
  show wpAny _ _ (field (.ref eA) 2 >>= _) _ _ _
  refine wpAny_bind (wpAny_field kE rfl (x := .ref iA) rfl ?_)
  refine wpAny_bind (RZ.nextOf_tuple_end hh kI kL kx fun g' x ke kx' => ?_)
  obtain ⟨u, ku, kc⟩ := kx'
  exact wpAny_bind (wpAny_isInstance (T := "StopIteration") (b := true) ⟨u, ku, kc⟩ isSubtype_stop (wpAny_pure (kQ _ ke)))
end
theorem enT_new (lA : Addr) (its : Array Value) :
    Meets (Builtin.«enumerate.__new__» ⟨[.type "enumerate", .ref lA], []⟩) (fun _ R s => s.heap.IsTuple lA its ∧
      R (.ok (.ret (.ref (s.heap.push { cls := .type "tuple_iterator", data := .fields #[.ref lA, .int 0 0] }).objs.size)))
        { s with heap := (s.heap.push { cls := .type "tuple_iterator", data := .fields #[.ref lA, .int 0 0] }).push { cls := .type "enumerate", data := .fields #[.none, .bool false, .ref s.heap.objs.size, rawInt 0, .none, .none] } }) :=
  .of_wp fun P w A R s k => by
    obtain ⟨h0, gl, dd, tk, oo⟩ := s
    obtain ⟨kl, k⟩ := k
    have sb := sub_enumerate
    have kL : Heap.IsTuple (Shared.heap ⟨h0, gl, dd, tk, oo⟩) lA its := kl
    wp_walk using wpAny_pyIter_tuple kL
    refine wpAny_stack_any fun st => wpAny_pure ?_
    split
    · rename_i c _ _ _ _ _
      cases (c == Value.type "enumerate") <;>
      · wp_walk using wpAny_pyIter_tuple kL
        exact ⟨_, rfl, k⟩
    · wp_walk using wpAny_pyIter_tuple kL
      exact ⟨_, rfl, k⟩
section
variable {P : Program} {w : World} {A : Around} {E : Value → Shared → Prop} {s : Shared}
theorem enT_call {lA : Addr} {its : Array Value} {Q : Value → Shared → Prop} (kl : s.heap.IsTuple lA its)
    (k : ∀ g', IsEnum g' (s.heap.objs.size + 1) s.heap.objs.size 0 .none → g'.IsTupleIter s.heap.objs.size lA 0 → g'.objs.size = s.heap.objs.size + 2 →
      (∀ c u, s.heap.get? c = some u → g'.get? c = some u) → Q (.ref (s.heap.objs.size + 1)) { s with heap := g' }) :
    wpAny (model P w) A (call (.type "enumerate") [.ref lA]) Q E s := by
  refine callType_new F.called_enumerate (by decide) (F.typeCall_enumerate_1 _) (F.newCall_enumerate_1 _) (fun obj => F.args_object_init_2 obj _) F.entry_enumerate_new (enT_new lA its) ⟨kl, ?_⟩
  have z : (s.heap.push { cls := .type "tuple_iterator", data := .fields #[.ref lA, .int 0 0] }).objs.size = s.heap.objs.size + 1 := Heap.size_push ..
  show _ ∧ _
  rw [z]
  have kE : IsEnum ((s.heap.push { cls := .type "tuple_iterator", data := .fields #[.ref lA, .int 0 0] }).push
      { cls := .type "enumerate", data := .fields #[.none, .bool false, .ref s.heap.objs.size, rawInt 0, .none, .none] }) (s.heap.objs.size + 1) s.heap.objs.size 0 .none := by
    have t := Heap.get?_push_size (s.heap.push { cls := .type "tuple_iterator", data := .fields #[.ref lA, .int 0 0] })
      (o := { cls := .type "enumerate", data := .fields #[.none, .bool false, .ref s.heap.objs.size, rawInt 0, .none, .none] }) rfl
    rw [z] at t; exact t
  exact ⟨⟨_, kE, rfl⟩, k _ kE ⟨_, Heap.get?_push_of_some _ (Heap.get?_push_size _ rfl), rfl, rfl⟩ (by rw [Heap.size_push, z]) fun c u x => Heap.get?_push_of_some _ (Heap.get?_push_of_some _ x)⟩
end
/-- the tuple at a, each item in a new pair -/
def Ien (K : PySem.W.Frag) (a : Addr) : It :=
  ⟨fun i H => ∃ (xs : List V) (x : V), SqT K H a xs ∧ xs[i]? = some x, fun i H v H' => ∃ T x, v = .ref T ∧ H T = none ∧ H' = upd H T (.tup [.int (i : Nat), x]) ∧ ∀ xs, SqT K H a xs → xs[i]? = some x, fun i H => ∃ xs : List V, SqT K H a xs ∧ xs.length ≤ i⟩
theorem enT_turn {P : Program} {w : World} {K : PySem.W.Frag} {elts : List Expr} {kk : Nat} {tpos : Pos} (a e it : Addr) :
    Turn P w K (.Tuple elts kk tpos) (Ien K a) [e, it] e (fun i h => (∃ vo, IsEnum h e it ((i : Nat) : Int) vo) ∧ h.IsTupleIter it a i ∧ e ≠ it) where
  mem := List.mem_cons_self
  obj := fun i h st b hb => by
    obtain ⟨⟨vo, he⟩, ⟨u, hu, hc, hd⟩, _⟩ := st
    rcases (show b = e ∨ b = it by simpa using hb) with z | z
    · rw [z]; exact ⟨_, he, nofun⟩
    · rw [z]; exact ⟨u, hu, fun v q => by rw [hd] at q; cases q⟩
  keep := fun i h h' ⟨⟨vo, he⟩, hi, ne⟩ k => ⟨⟨vo, k e (by simp) _ he⟩, hi.at fun o q => k it (by simp) o q, ne⟩
  item := by
    intro X hP hw hK hc i pins s σ H E I hf st hg
    subst hP hw hK
    obtain ⟨⟨vo, he⟩, hit, ne⟩ := st
    obtain ⟨xs, x, hq, hx⟩ := hg
    obtain ⟨its, rv, p, _⟩ := I.tuple hq
    obtain ⟨u, hu, ru⟩ := rv.get hx
    have lte : e < s.heap.objs.size := Heap.lt_size he
    have lti : it < s.heap.objs.size := by obtain ⟨_, q, _⟩ := hit; exact Heap.lt_size q
    refine enT_item he hit p (vx := u) (by simpa using hu) ne fun g' go git gT gz gk => ?_
    refine ⟨_, rfl, wpAny_letOwnedTupleGo_enum (s := { s with heap := g', toks := s.toks + 1 }) go fun g2 ge sb => ?_⟩
    have gT2 : g2.get? s.heap.objs.size = some { cls := .type "tuple", data := .seq #[.int i s.toks, u] } := (sb.2 _ (Nat.ne_of_gt lte)).trans gT
    have new : ObjOk X.prog X.w (upd H s.heap.objs.size (.tup [.int (i : Nat), x])) g2 s.heap.objs.size (.tup [.int (i : Nat), x]) :=
      ⟨by show 2 ≤ sizeLine; decide, [.int i s.toks, u], .cons ⟨_, rfl⟩ (.cons ru .nil), ⟨_, gT2, rfl, _, rfl⟩⟩
    have I1 : Inv X pins σ (upd H s.heap.objs.size (.tup [.int (i : Nat), x])) { s with heap := g2, toks := s.toks + 1 } :=
      I.turnedNew (ch := [e, it]) (fun b ob hb q => (sb.2 b (fun z => hb (by simp [z]))).trans (gk b ob (fun z => hb (by simp [z])) (fun z => hb (by simp [z])) q)) hf (Nat.le_refl _) new
    refine ⟨.ref s.heap.objs.size, _, I1, rfl, ⟨_, x, rfl, I.hok.fresh (Nat.le_refl _), rfl, fun ys hy => by rw [I.tuple_inj hy hq]; exact hx⟩, ⟨⟨u, ?_⟩, git.at fun o q => (sb.2 it (Ne.symm ne)).trans q, ne⟩, fun b hb => ?_⟩
    · rw [show ((i + 1 : Nat) : Int) = (i : Int) + 1 by omega]; exact ge
    · have hb' : b < s.heap.objs.size := by
        rcases (show b = e ∨ b = it by simpa using hb) with z | z
        · rw [z]; exact lte
        · rw [z]; exact lti
      rw [upd_ne (Nat.ne_of_lt hb')]
      exact (hf b hb).1
  done := by
    intro X hP hw hK hc i pins s σ H E I hf st hg
    subst hP hw hK
    obtain ⟨⟨vo, he⟩, hit, ne⟩ := st
    obtain ⟨xs, hq, hx⟩ := hg
    obtain ⟨its, rv, p, _⟩ := I.tuple hq
    obtain ⟨f0, f1, f2, f3, f4, f5⟩ := hf it (by simp)
    have hl := rv.length
    exact enT_end (I.ok.hd hc) he hit p (by simp; omega) fun g' eb => ⟨rfl, I.turned (t' := s.toks) (fun b o hb q => eb b o hb q) f0 f1 f3 f4 f5⟩
  self := fun A i s Q E ⟨⟨_, he⟩, _⟩ h => wpAny_pyIter_enum he h
def iEnT (K : PySem.W.Frag) (ta : TA) : TI := fun σ H R => ta σ H fun vs H1 => ∃ a xs, vs = [.ref a] ∧ SqT K H1 a xs ∧ R (Ien K a) H1
theorem pi_enT {X : Cx} {e : Expr} {ta : TA} {p pos tpos : Pos} {elts : List Expr} {kk : Nat} (hg : Gl X "enumerate") (hm : X.mg "enumerate" = none) (ha : PA X [e] ta) (hs : starEach [e] X.env = [(false, eval e X.env)] := by rfl) :
    PI X (.Tuple elts kk tpos) (.Call (.Name "enumerate" p) [e] [] pos) (iEnT X.K ta) := by
  refine ⟨fun pins s σ H R I h => Call_ (ld_blt I hg hm boot_enumerate (PyProof.Rows.callWith_type1 (thn (ha.run pos pins s σ H _ I h) fun us s1 ⟨vs, H1, I1, r1, q1⟩ => ?_) hs rfl))⟩
  obtain ⟨a, xs, ex, hq, q⟩ := q1
  subst ex
  cases r1 with
  | cons r rr =>
    cases rr
    cases r
    obtain ⟨its, rv, p', hz⟩ := I1.tuple hq
    refine enT_call (show s1.heap.IsTuple a its.toArray from p') fun g' he hit hsz hk => wpAny_pyIter_enum he ?_
    have I2 : Inv X pins σ H1 { s1 with heap := g' } := I1.kept (t' := s1.toks) hk
    refine ⟨s1.heap.objs.size + 1, [s1.heap.objs.size + 1, s1.heap.objs.size], _, _, H1, rfl, I2, enT_turn a (s1.heap.objs.size + 1) s1.heap.objs.size, ⟨⟨.none, he⟩, hit, Nat.succ_ne_self _⟩, fun b hb => ?_, q⟩
    have hle : s1.heap.objs.size ≤ b := by
      rcases (show b = s1.heap.objs.size + 1 ∨ b = s1.heap.objs.size by simpa using hb) with z | z
      · rw [z]; exact Nat.le_add_right _ _
      · rw [z]; exact Nat.le_refl _
    exact I1.fpOk hle (I1.hok.fresh hle)
end Dt
namespace Dt
open PySem PySem.Spec PyProof.Rows L2
section
variable {X : Cx} {T : Tab} {ξ : Xi} {W : WX} {σ : L2.St} {ρ : Ro} {H H' : Hp} {Z Z' : Z1} {F : F1}

/-! ### 18. pairs that are walked -/
theorem SqL.kp {p : Addr} {vs : List V} (hz : Z p) (h : H p = some (.lst vs)) (k : Kp H Z H') : SqL X.K H' p vs := .of (k _ _ h hz)
/-- a new pair -/
theorem pair_new {p : Addr} {a b : V} {d e : D} (zh : ∀ c, Z c → ∃ o, H c = some o) (hp : H p = none) (ra : Rp X.K X.mg H Z d a) (rb : Rp X.K X.mg H Z e b) :
    ∃ Z', Ext H Z (fun _ => False) (upd H p (.tup [a, b])) Z' (fun _ => False) ∧ (∀ c, Z' c → ∃ o, upd H p (.tup [a, b]) c = some o) ∧ Rp X.K X.mg (upd H p (.tup [a, b])) Z' (.tup [d, e]) (.ref p) := by
  have x := Ext.new (Z := Z) (o := .tup [a, b]) hp
  refine ⟨_, x, zh_new zh, p, [a, b], rfl, .inl ⟨.inr rfl, upd_same⟩, ⟨a, [b], rfl, ?_, b, [], rfl, ?_, rfl⟩, by show 2 ≤ sizeLine; decide⟩
  · exact Rp.ext x (fun _ _ z => z) ra
  · exact Rp.ext x (fun _ _ z => z) rb
def enD (ds : List D) : List D := ds.zipIdx.map fun p => .tup [.int (p.2 : Nat), p.1]
def zpD (ds es : List D) : List D := (ds.zip es).map fun p => .tup [p.1, p.2]
theorem enD_get {ds : List D} {i : Nat} {d : D} (h : (enD ds)[i]? = some d) : ∃ x, ds[i]? = some x ∧ d = .tup [.int (i : Nat), x] := by
  unfold enD at h
  rw [List.getElem?_map, List.getElem?_zipIdx] at h
  cases e : ds[i]? with
  | none => rw [e] at h; cases h
  | some x =>
    rw [e] at h
    exact ⟨x, rfl, by simpa using h.symm⟩
theorem enD_length (ds : List D) : (enD ds).length = ds.length := by simp [enD]
theorem zpD_get {ds es : List D} {i : Nat} {d : D} (h : (zpD ds es)[i]? = some d) : ∃ x y, ds[i]? = some x ∧ es[i]? = some y ∧ d = .tup [x, y] := by
  unfold zpD at h
  rw [List.getElem?_map] at h
  cases e : (ds.zip es)[i]? with
  | none => rw [e] at h; cases h
  | some x =>
    rw [e] at h
    obtain ⟨h1, h2⟩ := List.getElem?_zip_eq_some.mp e
    exact ⟨x.1, x.2, h1, h2, by simpa using h.symm⟩
theorem zpD_length (ds es : List D) : (zpD ds es).length = min ds.length es.length := by simp [zpD]
theorem wk_enL {p : Addr} {vs : List V} {ds : List D} (hz : Z p) (h : H p = some (.lst vs)) (r : RpL X.K X.mg H Z ds vs) : Wk X (Ite X.K p) (enD ds) H Z where
  go := fun i d H1 k hd => by
    obtain ⟨x, hx, _⟩ := enD_get hd
    obtain ⟨v, hv, _⟩ := r.get hx
    exact ⟨vs, v, SqL.kp hz h k, hv⟩
  yld := fun i d H1 x H2 Z2 k zz zh hd y => by
    obtain ⟨e, he, rfl⟩ := enD_get hd
    obtain ⟨t, v, rfl, ht, rfl, y⟩ := y
    obtain ⟨u, hu, ru⟩ := r.get he
    have : some u = some v := hu.symm.trans (y vs (SqL.kp hz h k))
    cases this
    exact pair_new zh ht rfl (Rp.mono k zz _ _ ru)
  stop := fun i H1 k hn => ⟨vs, SqL.kp hz h k, by rw [r.length]; rw [enD_length] at hn; exact hn⟩
theorem wk_enT {p : Addr} {vs : List V} {ds : List D} (t : TupAt X.K H Z p vs) (r : RpL X.K X.mg H Z ds vs) : Wk X (Ien X.K p) (enD ds) H Z where
  go := fun i d H1 k hd => by
    obtain ⟨x, hx, _⟩ := enD_get hd
    obtain ⟨v, hv, _⟩ := r.get hx
    exact ⟨vs, v, SqT.kp t k, hv⟩
  yld := fun i d H1 x H2 Z2 k zz zh hd y => by
    obtain ⟨e, he, rfl⟩ := enD_get hd
    obtain ⟨q, v, rfl, ht, rfl, y⟩ := y
    obtain ⟨u, hu, ru⟩ := r.get he
    have : some u = some v := hu.symm.trans (y vs (SqT.kp t k))
    cases this
    exact pair_new zh ht rfl (Rp.mono k zz _ _ ru)
  stop := fun i H1 k hn => ⟨vs, SqT.kp t k, by rw [r.length]; rw [enD_length] at hn; exact hn⟩
theorem wk_zpL {p q : Addr} {vs ws : List V} {ds es : List D} (hz : Z p) (h : H p = some (.lst vs)) (r : RpL X.K X.mg H Z ds vs) (hz' : Z q) (h' : H q = some (.lst ws)) (r' : RpL X.K X.mg H Z es ws) : Wk X (Itz X.K p q) (zpD ds es) H Z where
  go := fun i d H1 k hd => by
    obtain ⟨x, y, hx, hy, _⟩ := zpD_get hd
    obtain ⟨v, hv, _⟩ := r.get hx
    obtain ⟨w, hw, _⟩ := r'.get hy
    exact ⟨vs, ws, v, w, SqL.kp hz h k, SqL.kp hz' h' k, hv, hw⟩
  yld := fun i d H1 x H2 Z2 k zz zh hd y => by
    obtain ⟨e, e', he, he', rfl⟩ := zpD_get hd
    obtain ⟨t, v, w, rfl, ht, rfl, y1, y2⟩ := y
    obtain ⟨u, hu, ru⟩ := r.get he
    obtain ⟨u', hu', ru'⟩ := r'.get he'
    have a1 : some u = some v := hu.symm.trans (y1 vs (SqL.kp hz h k))
    have a2 : some u' = some w := hu'.symm.trans (y2 ws (SqL.kp hz' h' k))
    cases a1
    cases a2
    exact pair_new zh ht (Rp.mono k zz _ _ ru) (Rp.mono k zz _ _ ru')
  stop := fun i H1 k hn => by
    refine ⟨vs, ws, SqL.kp hz h k, SqL.kp hz' h' k, ?_⟩
    rw [r.length, r'.length]
    rw [zpD_length] at hn
    omega
theorem wk_zpT {p q : Addr} {vs ws : List V} {ds es : List D} (t : TupAt X.K H Z p vs) (r : RpL X.K X.mg H Z ds vs) (t' : TupAt X.K H Z q ws) (r' : RpL X.K X.mg H Z es ws) : Wk X (RZ.ItzT X.K p q) (zpD ds es) H Z where
  go := fun i d H1 k hd => by
    obtain ⟨x, y, hx, hy, _⟩ := zpD_get hd
    obtain ⟨v, hv, _⟩ := r.get hx
    obtain ⟨w, hw, _⟩ := r'.get hy
    exact ⟨vs, ws, v, w, SqT.kp t k, SqT.kp t' k, hv, hw⟩
  yld := fun i d H1 x H2 Z2 k zz zh hd y => by
    obtain ⟨e, e', he, he', rfl⟩ := zpD_get hd
    obtain ⟨l, v, w, rfl, ht, rfl, y1, y2⟩ := y
    obtain ⟨u, hu, ru⟩ := r.get he
    obtain ⟨u', hu', ru'⟩ := r'.get he'
    have a1 : some u = some v := hu.symm.trans (y1 vs (SqT.kp t k))
    have a2 : some u' = some w := hu'.symm.trans (y2 ws (SqT.kp t' k))
    cases a1
    cases a2
    exact pair_new zh ht (Rp.mono k zz _ _ ru) (Rp.mono k zz _ _ ru')
  stop := fun i H1 k hn => by
    refine ⟨vs, ws, SqT.kp t k, SqT.kp t' k, ?_⟩
    rw [r.length, r'.length]
    rw [zpD_length] at hn
    omega
section
variable {a b : Expr} {p pos tpos : Pos} {f g : Fr D} {elts : List Expr} {kk : Nat}
@[simp] def fEnL (f : Fr D) : Fr (List D) := fun ρ => (f ρ).bind fun d ρ' => match d with
  | .lst ds => .ok (enD ds) ρ'
  | _ => .st
@[simp] def fEnT (f : Fr D) : Fr (List D) := fun ρ => (f ρ).bind fun d ρ' => match d with
  | .tup ds => .ok (enD ds) ρ'
  | _ => .st
theorem di_enL (hg : Gl X "enumerate") (hm : X.mg "enumerate" = none) (h : DE X T ξ W a f) (hs : starEach [a] X.env = [(false, eval a X.env)] := by rfl) : DI X T ξ W (.Tuple elts kk tpos) (.Call (.Name "enumerate" p) [a] [] pos) (fEnL f) := by
  refine (pi_enum hg hm (pa_cons h pa_nil hs) hs).to fun σ H R ⟨ρ, Z, F, s, h⟩ => ⟨ρ, Z, F, s, (Pst.bind h).imp fun d ρ' H' Z' F' _ s' k v rv => ?_⟩
  cases d with
  | lst ds =>
    obtain ⟨q, vs, rfl, t, r, n⟩ := rv
    exact ⟨q, vs, rfl, .of t.2, k.here s' (by rw [enD_length]; exact n) _ (wk_enL t.1 t.2 r)⟩
  | _ => exact k.elim
theorem di_enT (hg : Gl X "enumerate") (hm : X.mg "enumerate" = none) (h : DE X T ξ W a f) (hs : starEach [a] X.env = [(false, eval a X.env)] := by rfl) : DI X T ξ W (.Tuple elts kk tpos) (.Call (.Name "enumerate" p) [a] [] pos) (fEnT f) := by
  refine (pi_enT hg hm (pa_cons h pa_nil hs) hs).to fun σ H R ⟨ρ, Z, F, s, h⟩ => ⟨ρ, Z, F, s, (Pst.bind h).imp fun d ρ' H' Z' F' _ s' k v rv => ?_⟩
  cases d with
  | tup ds =>
    obtain ⟨q, vs, rfl, t, r, n⟩ := rv
    exact ⟨q, vs, rfl, t.sq, k.here s' (by rw [enD_length]; exact n) _ (wk_enT t r)⟩
  | _ => exact k.elim
@[simp] def fZp (f g : Fr D) : Fr (List D) := fun ρ => (f ρ).bind fun d ρ1 => (g ρ1).bind fun e ρ2 => match d, e with
  | .lst ds, .lst es => .ok (zpD ds es) ρ2
  | .tup ds, .tup es => .ok (zpD ds es) ρ2
  | _, _ => .st
theorem di_zip (hg : Gl X "zip") (hm : X.mg "zip" = none) (h : DE X T ξ W a f) (h' : DE X T ξ W b g) (hs : starEach [a, b] X.env = (false, eval a X.env) :: starEach [b] X.env := by rfl) (hs2 : starEach [b] X.env = (false, eval b X.env) :: starEach [] X.env := by rfl) (hpl : (backTo pos (starEach [b] X.env)).any (·.1) = false := by rfl) :
    DI X T ξ W (.Tuple elts kk tpos) (.Call (.Name "zip" p) [a, b] [] pos) (fZp f g) := by
  refine (RZ.pi_zipA hg hm (pa_cons h (pa_cons h' pa_nil hs2) hs) hs hpl).to fun σ H R ⟨ρ, Z, F, s, h⟩ => ⟨ρ, Z, F, s, (Pst.bind h).imp fun d ρ1 H1 Z1 F1 e1 s1 k1 v rv => ⟨ρ1, Z1, F1, s1, (Pst.bind k1).imp fun e ρ2 H2 Z2 F2 e2 s2 k w rw' => ?_⟩⟩
  have rv' := Rp.ext e2 s1.dz rv
  cases d with
  | lst ds =>
    cases e with
    | lst es =>
      obtain ⟨q, vs, rfl, t, r, n⟩ := rv'
      obtain ⟨q', vs', rfl, t', r', n'⟩ := rw'
      exact ⟨q, q', vs, vs', rfl, .inl ⟨.of t.2, .of t'.2, k.here s2 (by rw [zpD_length]; exact Nat.le_trans (Nat.min_le_left _ _) n) _ (wk_zpL t.1 t.2 r t'.1 t'.2 r')⟩⟩
    | _ => exact k.elim
  | tup ds =>
    cases e with
    | tup es =>
      obtain ⟨q, vs, rfl, t, r, n⟩ := rv'
      obtain ⟨q', vs', rfl, t', r', n'⟩ := rw'
      exact ⟨q, q', vs, vs', rfl, .inr ⟨t.sq, t'.sq, k.here s2 (by rw [zpD_length]; exact Nat.le_trans (Nat.min_le_left _ _) n) _ (wk_zpT t r t' r')⟩⟩
    | _ => exact k.elim
  | _ => exact k.elim
end

/-! ### 19. tests of a comprehension -/
@[simp] def fYes : Fr Bool := fun ρ => .ok true ρ
theorem dts_nil : PTs X [] (tDT X T ξ W fYes) := ⟨fun pins s σ H Q I ⟨ρ, Z, F, s', h⟩ => pts_nil.run pins s σ H Q I (h.here s')⟩
theorem dts_one {c : Expr} {f : Fr Bool} (h : DT X T ξ W c f) : PTs X [c] (tDT X T ξ W f) := pts_one h

/-! ### 20. any, all, sum, sorted of new lists -/
def toBls : List D → Option (List Bool)
  | [] => some []
  | .bl b :: ds => (toBls ds).map (b :: ·)
  | _ => none
def toInts : List D → Option (List Int)
  | [] => some []
  | .int b :: ds => (toInts ds).map (b :: ·)
  | _ => none
theorem toBls_eq : ∀ {ds : List D} {bs : List Bool}, toBls ds = some bs → ds = bs.map D.bl
  | [], _, h => by cases h; rfl
  | .bl b :: ds, _, h => by
    unfold toBls at h
    cases e : toBls ds with
    | none => rw [e] at h; cases h
    | some cs =>
      rw [e] at h
      cases h
      rw [toBls_eq e]
      rfl
theorem toInts_eq : ∀ {ds : List D} {bs : List Int}, toInts ds = some bs → ds = bs.map D.int
  | [], _, h => by cases h; rfl
  | .int b :: ds, _, h => by
    unfold toInts at h
    cases e : toInts ds with
    | none => rw [e] at h; cases h
    | some cs =>
      rw [e] at h
      cases h
      rw [toInts_eq e]
      rfl
theorem toBls_map (bs : List Bool) : toBls (bs.map D.bl) = some bs := by
  induction bs with
  | nil => rfl
  | cons b bs ih => simp only [List.map_cons, toBls, ih]; rfl
theorem toInts_map (bs : List Int) : toInts (bs.map D.int) = some bs := by
  induction bs with
  | nil => rfl
  | cons b bs ih => simp only [List.map_cons, toInts, ih]; rfl
section
variable {a : Expr} {p pos : Pos} {f : Fr Hd}
@[simp] def fBuB (o : List Bool → Bool) (f : Fr Hd) : Fr D := fun ρ => (f ρ).bind fun h ρ' => match (h.lits ρ').bind toBls with
  | some bs => .ok (.bl (o bs)) ρ'
  | none => .st
theorem bt_any : bootBuiltins "any" = some (.builtin "any") := by decide +kernel
theorem bt_all : bootBuiltins "all" = some (.builtin "all") := by decide +kernel
theorem bt_sum : bootBuiltins "sum" = some (.builtin "sum") := by decide +kernel
theorem bt_sorted : bootBuiltins "sorted" = some (.builtin "sorted") := by decide +kernel
theorem de_any (hc : X.calm = true) (hg : Gl X "any") (hm : X.mg "any" = none) (ha : DB X T ξ W a f) (he : starEach [a] X.env = (false, eval a X.env) :: starEach [] X.env := by rfl) : DE X T ξ W (.Call (.Name "any" p) [a] [] pos) (fBuB (·.any id) f) := by
  refine (pe_callB (cr_any hc) hg hm bt_any (pa_cons ha pa_nil he) (by decide) (by decide) he).to fun σ H Q ⟨ρ, Z, F, s, h⟩ => ⟨ρ, Z, F, s, (Pst.bind h).imp fun hd ρ' H' Z' F' _ s' k v rv => ?_⟩
  cases l : hd.lits ρ' with
  | none => simp only [l, Option.bind_none] at k; exact k.elim
  | some ds =>
    cases l2 : toBls ds with
    | none => simp only [l, l2, Option.bind_some] at k; exact k.elim
    | some bs =>
      simp only [l, l2, Option.bind_some] at k
      obtain ⟨q, vs, rfl, hq, r, _⟩ := s'.lits rv l
      rw [toBls_eq l2] at r
      obtain rfl := r.bls_eq
      exact ⟨q, bs, rfl, .of hq, k.here s' _ rfl⟩
theorem de_all (hc : X.calm = true) (hg : Gl X "all") (hm : X.mg "all" = none) (ha : DB X T ξ W a f) (he : starEach [a] X.env = (false, eval a X.env) :: starEach [] X.env := by rfl) : DE X T ξ W (.Call (.Name "all" p) [a] [] pos) (fBuB (·.all id) f) := by
  refine (pe_callB (cr_all hc) hg hm bt_all (pa_cons ha pa_nil he) (by decide) (by decide) he).to fun σ H Q ⟨ρ, Z, F, s, h⟩ => ⟨ρ, Z, F, s, (Pst.bind h).imp fun hd ρ' H' Z' F' _ s' k v rv => ?_⟩
  cases l : hd.lits ρ' with
  | none => simp only [l, Option.bind_none] at k; exact k.elim
  | some ds =>
    cases l2 : toBls ds with
    | none => simp only [l, l2, Option.bind_some] at k; exact k.elim
    | some bs =>
      simp only [l, l2, Option.bind_some] at k
      obtain ⟨q, vs, rfl, hq, r, _⟩ := s'.lits rv l
      rw [toBls_eq l2] at r
      obtain rfl := r.bls_eq
      exact ⟨q, bs, rfl, .of hq, k.here s' _ rfl⟩
@[simp] def fSum (f : Fr Hd) : Fr D := fun ρ => (f ρ).bind fun h ρ' => match (h.lits ρ').bind toInts with
  | some bs => .ok (.int bs.sum) ρ'
  | none => .st
theorem de_sum (hc : X.calm = true) (hg : Gl X "sum") (hm : X.mg "sum" = none) (ha : DB X T ξ W a f) (he : starEach [a] X.env = (false, eval a X.env) :: starEach [] X.env := by rfl) : DE X T ξ W (.Call (.Name "sum" p) [a] [] pos) (fSum f) := by
  refine (pe_callB (cr_sum hc) hg hm bt_sum (pa_cons ha pa_nil he) (by decide) (by decide) he).to fun σ H Q ⟨ρ, Z, F, s, h⟩ => ⟨ρ, Z, F, s, (Pst.bind h).imp fun hd ρ' H' Z' F' _ s' k v rv => ?_⟩
  cases l : hd.lits ρ' with
  | none => simp only [l, Option.bind_none] at k; exact k.elim
  | some ds =>
    cases l2 : toInts ds with
    | none => simp only [l, l2, Option.bind_some] at k; exact k.elim
    | some bs =>
      simp only [l, l2, Option.bind_some] at k
      obtain ⟨q, vs, rfl, hq, r, _⟩ := s'.lits rv l
      rw [toInts_eq l2] at r
      obtain rfl := r.ints_eq
      exact ⟨q, bs, rfl, .of hq, k.here s' _ rfl⟩
/-- whole numbers, rising -/
def insI (x : Int) : List Int → List Int
  | [] => [x]
  | y :: ys => if x ≤ y then x :: y :: ys else y :: insI x ys
def sortI : List Int → List Int
  | [] => []
  | x :: xs => insI x (sortI xs)
theorem insI_perm (x : Int) : ∀ ys, (insI x ys).Perm (x :: ys)
  | [] => .refl _
  | y :: ys => by
    unfold insI
    by_cases h : x ≤ y
    · rw [if_pos h]
    · rw [if_neg h]
      exact ((insI_perm x ys).cons y).trans (.swap x y ys)
theorem sortI_perm : ∀ xs, (sortI xs).Perm xs
  | [] => .refl _
  | x :: xs => (insI_perm x _).trans ((sortI_perm xs).cons x)
theorem insI_sorted (x : Int) : ∀ {ys : List Int}, ys.Pairwise (· ≤ ·) → (insI x ys).Pairwise (· ≤ ·)
  | [], _ => by simp [insI]
  | y :: ys, h => by
    unfold insI
    by_cases c : x ≤ y
    · rw [if_pos c]
      refine List.pairwise_cons.mpr ⟨fun z hz => ?_, h⟩
      rcases List.mem_cons.mp hz with e | hz
      · rw [e]; exact c
      · have := (List.pairwise_cons.mp h).1 z hz
        omega
    · rw [if_neg c]
      refine List.pairwise_cons.mpr ⟨fun z hz => ?_, insI_sorted x (List.pairwise_cons.mp h).2⟩
      rcases List.mem_cons.mp ((insI_perm x ys).mem_iff.mp hz) with e | hz
      · rw [e]; omega
      · exact (List.pairwise_cons.mp h).1 z hz
theorem sortI_sorted : ∀ xs, (sortI xs).Pairwise (· ≤ ·)
  | [] => .nil
  | x :: xs => insI_sorted x (sortI_sorted xs)
theorem sorted_uniq : ∀ {xs ys : List Int}, xs.Perm ys → xs.Pairwise (· ≤ ·) → ys.Pairwise (· ≤ ·) → xs = ys
  | [], ys, h, _, _ => by rw [List.nil_perm.mp h]
  | x :: xs, [], h, _, _ => by have := h.length_eq; simp at this
  | x :: xs, y :: ys, h, h1, h2 => by
    have a1 := List.pairwise_cons.mp h1
    have a2 := List.pairwise_cons.mp h2
    have e : x = y := by
      have m1 : x ∈ y :: ys := h.mem_iff.mp List.mem_cons_self
      have m2 : y ∈ x :: xs := h.mem_iff.mpr List.mem_cons_self
      rcases List.mem_cons.mp m1 with e | m1
      · exact e
      · rcases List.mem_cons.mp m2 with e | m2
        · exact e.symm
        · have b1 := a1.1 y m2
          have b2 := a2.1 x m1
          omega
    subst e
    rw [sorted_uniq (List.Perm.cons_inv h) a1.2 a2.2]
@[simp] def fSort (f : Fr Hd) : Fr (List D) := fun ρ => (f ρ).bind fun h ρ' => match (h.lits ρ').bind toInts with
  | some bs => .ok ((sortI bs).map D.int) ρ'
  | none => .st
theorem dn_sorted (hg : Gl X "sorted") (hm : X.mg "sorted" = none) (ha : DB X T ξ W a f) (he : starEach [a] X.env = (false, eval a X.env) :: starEach [] X.env := by rfl) : DN X T ξ W (.Call (.Name "sorted" p) [a] [] pos) (fSort f) := by
  refine (pe_callB cr_sortedI hg hm bt_sorted (pa_cons ha pa_nil he) (by decide) (by decide) he).to fun σ H Q ⟨ρ, Z, F, s, h⟩ => ⟨ρ, Z, F, s, (Pst.bind h).imp fun hd ρ' H' Z' F' _ s' k v rv => ?_⟩
  cases l : hd.lits ρ' with
  | none => simp only [l, Option.bind_none] at k; exact k.elim
  | some ds =>
    cases l2 : toInts ds with
    | none => simp only [l, l2, Option.bind_some] at k; exact k.elim
    | some bs =>
      simp only [l, l2, Option.bind_some] at k
      obtain ⟨q, vs, rfl, hq, r, n⟩ := s'.lits rv l
      rw [toInts_eq l2] at r n
      obtain rfl := r.ints_eq
      refine ⟨q, bs, rfl, .of hq, fun ns' a' hp hs hn => ?_⟩
      obtain rfl : ns' = sortI bs := sorted_uniq (hp.trans (sortI_perm bs).symm) hs (sortI_sorted bs)
      exact k.here s' a' _ _ upd_same upd_other hn (RpL.ints _) (by rw [List.length_map, (sortI_perm bs).length_eq]; rw [List.length_map] at n; exact n)
end
end
end Dt
namespace Dt
open PySem PySem.Spec PyProof.Rows L2
section
variable {X : Cx} {T : Tab} {ξ : Xi} {W : WX} {σ σ' : L2.St} {ρ : Ro} {H H' : Hp} {Z Z' : Z1} {F : F1}

/-! ### 21. what stands behind a statement -/
inductive Sr where
  | nx (ρ : Ro)
  | bk (ρ : Ro)
  | ct (ρ : Ro)
  | rt (s : Sl) (ρ : Ro)
  | ex (n : Nat) (d : D) (ρ : Ro)
  | st
@[simp] def Res.sr {α : Type} (r : Res α) (k : α → Ro → Sr) : Sr := match r with
  | .ok a ρ => k a ρ
  | .ex n d ρ => .ex n d ρ
  | .st => .st
abbrev Fs := Ro → Sr
section
variable (X T ξ W)
def PsS (r : Sr) (E : Ends) (H : Hp) (Z : Z1) (F : F1) : Prop := match r with
  | .nx ρ' => ∀ σ' H' Z' F', Ext H Z (own F) H' Z' (own F') → Sta X.K X.mg T ξ H' Z' F' σ' ρ' → E.nx σ' H'
  | .bk ρ' => ∀ σ' H' Z' F', Ext H Z (own F) H' Z' (own F') → Sta X.K X.mg T ξ H' Z' F' σ' ρ' → E.bk σ' H'
  | .ct ρ' => ∀ σ' H' Z' F', Ext H Z (own F) H' Z' (own F') → Sta X.K X.mg T ξ H' Z' F' σ' ρ' → E.ct σ' H'
  | .rt s ρ' => ∀ v σ' H' Z' F' P, Ext H Z (own F) H' Z' (fun a => own F' a ∨ P a) → Sta X.K X.mg T ξ H' Z' F' σ' ρ' → RpS X.K X.mg T none H' Z' s (some v) P → (∀ a, P a → ¬ own F' a ∧ ¬ Z' a) → E.rt v H'
  | .ex n d ρ' => ∀ v σ' H' Z' F' da, Ext H Z (own F) H' Z' (own F') → Sta X.K X.mg T ξ H' Z' F' σ' ρ' → Rp X.K X.mg H' Z' d v → H' da = some (.xd [(T.fld n, v)]) → Z' da → W (.ref (T.cls n)) (some da) σ' H'
  | .st => False
def tDS (f : Fs) : TS := fun E σ H => ∃ ρ Z F, Sta X.K X.mg T ξ H Z F σ ρ ∧ PsS X T ξ W (f ρ) E H Z F
abbrev DS (st : Stmt) (f : Fs) : Prop := PS X st (tDS X T ξ W f)
abbrev DSs (st : List Stmt) (f : Fs) : Prop := PSs X st (tDS X T ξ W f)
end
theorem PsS.shift {r : Sr} {E : Ends} {H1 : Hp} {Za : Z1} {Fa : F1} (e : Ext H Z (own F) H1 Za (own Fa)) (h : PsS X T ξ W r E H Z F) : PsS X T ξ W r E H1 Za Fa := by
  cases r with
  | nx ρ' => exact fun σ' H' Z' F' e' s' => h σ' H' Z' F' (e.trans e') s'
  | bk ρ' => exact fun σ' H' Z' F' e' s' => h σ' H' Z' F' (e.trans e') s'
  | ct ρ' => exact fun σ' H' Z' F' e' s' => h σ' H' Z' F' (e.trans e') s'
  | rt s ρ' => exact fun v σ' H' Z' F' P e' s' => h v σ' H' Z' F' P (e.trans e') s'
  | ex n d ρ' => exact fun v σ' H' Z' F' da e' s' => h v σ' H' Z' F' da (e.trans e') s'
  | st => exact h
/-- an expression's end, then the statement's -/
theorem Pst.sr {α : Type} {r : Res α} {g : α → Ro → Sr} {E : Ends} (h : PsS X T ξ W (r.sr g) E H Z F) : Pst X T ξ W σ r (fun a ρ1 H1 Z1 F1 => PsS X T ξ W (g a ρ1) E H1 Z1 F1) H Z F := by
  cases r with
  | ok a ρ' => exact fun H' Z' F' e' s' => PsS.shift e' h
  | ex n d ρ' => exact fun v H' Z' F' da e' s' => h v σ H' Z' F' da e' s'
  | st => exact h

/-! ### 22. values that may be new ones of one's own -/
def RpSs (X : Cx) (T : Tab) (H : Hp) (Z : Z1) : List Sl → List V → List Z1 → Prop
  | [], vs, Ps => vs = [] ∧ Ps = []
  | s :: ss, vs, Ps => ∃ v vs' P Ps', vs = v :: vs' ∧ Ps = P :: Ps' ∧ RpS X.K X.mg T none H Z s (some v) P ∧ (∀ a, P a → ∀ Q ∈ Ps', ¬ Q a) ∧ RpSs X T H Z ss vs' Ps'
def pend (Ps : List Z1) : Z1 := fun a => ∃ P ∈ Ps, P a
theorem RpS.xi {s : Sl} {o : Option V} {P : Z1} (h : RpS X.K X.mg T none H Z s o P) : RpS X.K X.mg T ξ H Z s o P := by
  cases s with
  | exc n d =>
    obtain ⟨⟨a, v, da, _, e, _⟩, _⟩ := h
    cases e
  | _ => exact h
theorem pend_nil {a : Addr} : ¬ pend [] a := fun ⟨_, h, _⟩ => nomatch h
theorem pend_cons {P : Z1} {Ps : List Z1} {a : Addr} : pend (P :: Ps) a ↔ P a ∨ pend Ps a := by
  constructor
  · rintro ⟨Q, h, q⟩
    rcases List.mem_cons.mp h with e | h
    · subst e; exact .inl q
    · exact .inr ⟨Q, h, q⟩
  · rintro (h | ⟨Q, h, q⟩)
    · exact ⟨P, List.mem_cons_self, h⟩
    · exact ⟨Q, List.mem_cons_of_mem _ h, q⟩
section
variable (X T ξ W σ)
/-- what stands behind: the values, what is new and nobody's as yet -/
def PstV (r : Res (List Sl)) (k : List V → Hp → Prop) (H : Hp) (Z : Z1) (F : F1) : Prop := match r with
  | .ok ss ρ' => ∀ vs H' Z' F' Ps, Ext H Z (own F) H' Z' (fun a => own F' a ∨ pend Ps a) → Sta X.K X.mg T ξ H' Z' F' σ ρ' → RpSs X T H' Z' ss vs Ps → (∀ a, pend Ps a → ¬ own F' a ∧ ¬ Z' a) → k vs H'
  | .ex n d ρ' => ∀ v H' Z' F' da, Ext H Z (own F) H' Z' (own F') → Sta X.K X.mg T ξ H' Z' F' σ ρ' → Rp X.K X.mg H' Z' d v → H' da = some (.xd [(T.fld n, v)]) → Z' da → W (.ref (T.cls n)) (some da) σ H'
  | .st => False
end
theorem PstV.shift {r : Res (List Sl)} {k : List V → Hp → Prop} {H1 : Hp} {Za : Z1} {Fa : F1} (e : Ext H Z (own F) H1 Za (own Fa)) (h : PstV X T ξ W σ r k H Z F) : PstV X T ξ W σ r k H1 Za Fa := by
  cases r with
  | ok a ρ' => exact fun vs H' Z' F' Ps e' s' => h vs H' Z' F' Ps (e.trans e') s'
  | ex n d ρ' => exact fun v H' Z' F' da e' s' => h v H' Z' F' da (e.trans e') s'
  | st => exact h
theorem PstV.bind {α : Type} {r : Res α} {g : α → Ro → Res (List Sl)} {k : List V → Hp → Prop} (h : PstV X T ξ W σ (r.bind g) k H Z F) : Pst X T ξ W σ r (fun a ρ1 H1 Z1 F1 => PstV X T ξ W σ (g a ρ1) k H1 Z1 F1) H Z F := by
  cases r with
  | ok a ρ' => exact fun H' Z' F' e' s' => PstV.shift e' h
  | ex n d ρ' => exact h
  | st => exact h
@[simp] def fOne (f : Fr Sl) : Fr (List Sl) := fun ρ => (f ρ).bind fun s ρ' => .ok [s] ρ'
section
variable (X T ξ W)
def tDV (f : Fr Sl) : TE := fun σ H Q => ∃ ρ Z F, Sta X.K X.mg T ξ H Z F σ ρ ∧ PstV X T ξ W σ (fOne f ρ) (fun vs H' => ∀ v, vs = [v] → Q v H') H Z F
def tDVs (f : Fr (List Sl)) : TA := fun σ H Q => ∃ ρ Z F, Sta X.K X.mg T ξ H Z F σ ρ ∧ PstV X T ξ W σ (f ρ) Q H Z F
abbrev DV (e : Expr) (f : Fr Sl) : Prop := PE X e (tDV X T ξ W f)
abbrev DVs (es : List Expr) (f : Fr (List Sl)) : Prop := PA X es (tDVs X T ξ W f)
end
theorem RpSs.one {s : Sl} {v : V} {P : Z1} (r : RpS X.K X.mg T none H Z s (some v) P) : RpSs X T H Z [s] [v] [P] := ⟨v, [], P, [], rfl, rfl, r, (fun _ _ _ h => nomatch h), rfl, rfl⟩
theorem RpSs.one_inv {s : Sl} {vs : List V} {Ps : List Z1} (r : RpSs X T H Z [s] vs Ps) : ∃ v P, vs = [v] ∧ Ps = [P] ∧ RpS X.K X.mg T none H Z s (some v) P := by
  obtain ⟨v, vs', P, Ps', rfl, rfl, r, _, rfl, rfl⟩ := r
  exact ⟨v, P, rfl, rfl, r⟩
@[simp] def fSD (f : Fr D) : Fr Sl := fun ρ => (f ρ).bind fun d ρ' => .ok (.dat d) ρ'
theorem imp_de {f : Fr D} {Q : VK} (h : tDV X T ξ W (fSD f) σ H Q) : tDE X T ξ W f σ H Q := by
  obtain ⟨ρ, Z, F, s, h⟩ := h
  refine ⟨ρ, Z, F, s, ?_⟩
  have h' : PstV X T ξ W σ ((f ρ).bind fun d ρ' => .ok [.dat d] ρ') (fun vs H' => ∀ v, vs = [v] → Q v H') H Z F := by
    unfold fOne fSD at h
    cases e : f ρ <;> (rw [e] at h; exact h)
  refine (PstV.bind h').imp fun d ρ' H' Z' F' _ s' k v rv => ?_
  exact k [v] H' Z' F' [fun _ => False] ((Ext.refl _ _ _).sub fun a z => z.elim id fun q => (by simp [pend] at q)) s' (RpSs.one ⟨⟨v, rfl, rv⟩, fun _ z => z⟩) (fun a q => by simp [pend] at q) v rfl
theorem dv_de {e : Expr} {f : Fr D} (h : DE X T ξ W e f) : DV X T ξ W e (fSD f) := PE.to h fun σ H Q q => imp_de q
@[simp] def fSL (f : Fr (List D)) : Fr Sl := fun ρ => (f ρ).bind fun d ρ' => .ok (.ol d) ρ'
theorem pend_one {P : Z1} {a : Addr} : pend [P] a ↔ P a := by simp [pend]
theorem own_new {p : Addr} {o : HO} (s : Sta X.K X.mg T ξ H Z F σ ρ) (hp : H p = none) : Sta X.K X.mg T ξ (upd H p o) Z F σ ρ ∧ Ext H Z (own F) (upd H p o) Z (fun a => own F a ∨ a = p) ∧ ¬ Z p ∧ ¬ own F p := by
  have nz : ¬ Z p := fun z => by obtain ⟨o, e⟩ := s.zh p z; rw [hp] at e; cases e
  have no : ¬ own F p := fun z => by obtain ⟨o, e⟩ := s.has z; rw [hp] at e; cases e
  refine ⟨s.other (fun b n => upd_ne n) nz no (fun o u e => by rw [hp] at e; cases e), ⟨fun b o hb _ => by rw [upd_ne (ne_of_none hb hp)]; exact hb, fun _ z => z, fun a z => z.imp id fun q => (by rw [q]; exact hp), fun _ z => .inl z⟩, nz, no⟩
theorem imp_dn {f : Fr (List D)} {Q : VK} (h : tDV X T ξ W (fSL f) σ H Q) : tDN X T ξ W f σ H Q := by
  obtain ⟨ρ, Z, F, s, h⟩ := h
  refine ⟨ρ, Z, F, s, ?_⟩
  have h' : PstV X T ξ W σ ((f ρ).bind fun d ρ' => .ok [.ol d] ρ') (fun vs H' => ∀ v, vs = [v] → Q v H') H Z F := by
    unfold fOne fSL at h
    cases e : f ρ <;> (rw [e] at h; exact h)
  refine (PstV.bind h').imp fun ds ρ' H' Z' F' _ s' k p vs H2 hp ho hn rvs hl => ?_
  have e := upd_of hp ho
  subst e
  obtain ⟨s2, e2, nz, no⟩ := own_new (o := .lst vs) s' hn
  refine k [.ref p] _ Z' F' [fun a => a = p] (e2.sub fun a z => z.imp id fun q => (pend_one (P := fun a => a = p)).mp q) s2 (RpSs.one ⟨p, vs, rfl, upd_same, RpL.other (fun b n => upd_ne n) nz rvs, hl, fun _ => Iff.rfl⟩) (fun a q => ?_) _ rfl
  obtain rfl : a = p := (pend_one (P := fun a => a = p)).mp q
  exact ⟨no, nz⟩
theorem dv_dn {e : Expr} {f : Fr (List D)} (h : DN X T ξ W e f) : DV X T ξ W e (fSL f) := PE.to h fun σ H Q q => imp_dn q
@[simp] def fsNil : Fr (List Sl) := fun ρ => .ok [] ρ
@[simp] def fsCons (f : Fr Sl) (g : Fr (List Sl)) : Fr (List Sl) := fun ρ => (f ρ).bind fun d ρ1 => (g ρ1).bind fun ds ρ2 => .ok (d :: ds) ρ2
theorem dvs_nil : DVs X T ξ W [] fsNil := pa_nil.to fun _ H _ ⟨_, Z, F, s, h⟩ => h [] H Z F [] ((Ext.refl _ _ _).sub fun a z => z.elim id fun q => (pend_nil q).elim) s ⟨rfl, rfl⟩ fun a q => (pend_nil q).elim
theorem PstV.one {f : Fr Sl} {g : Fr (List Sl)} {k : List V → Hp → Prop} (h : PstV X T ξ W σ (fsCons f g ρ) k H Z F) :
    PstV X T ξ W σ (fOne f ρ) (fun vs H' => ∀ v, vs = [v] → tDVs X T ξ W g σ H' fun ws H2 => k (v :: ws) H2) H Z F := by
  unfold fsCons at h
  unfold fOne
  cases e : f ρ with
  | st => rw [e] at h; exact h
  | ex n d ρ' => rw [e] at h; exact h
  | ok sl ρ1 =>
    rw [e] at h
    intro vs H1 Z1 F1 Ps e1 s1 r1 n1 v ev
    obtain ⟨v', P, rfl, rfl, rr⟩ := r1.one_inv
    cases ev
    have hP : ∀ a, P a → ¬ own F1 a ∧ ¬ Z1 a := fun a q => n1 a (pend_one.mpr q)
    refine ⟨ρ1, Z1, F1, s1, ?_⟩
    have h' : PstV X T ξ W σ ((g ρ1).bind fun ds ρ2 => .ok (sl :: ds) ρ2) k H Z F := h
    cases eg : g ρ1 with
    | st => rw [eg] at h'; exact h'
    | ex n d ρ' =>
      rw [eg] at h'
      exact fun w H2 Z2 F2 da e2 s2 => h' w H2 Z2 F2 da ((e1.sub fun a z => .inl z).trans e2) s2
    | ok ss ρ2 =>
      rw [eg] at h'
      intro ws H2 Z2 F2 Qs e2 s2 r2 n2
      have kp : ∀ b o, H1 b = some o → ¬ own F1 b → H2 b = some o := e2.keep
      have hs : ∀ a, P a → ∃ u, H1 a = some u := fun a q => rr.has q
      have nn : ∀ a, P a → ¬ own F2 a ∧ ¬ pend Qs a ∧ ¬ Z2 a := fun a q => by
        obtain ⟨u, hu⟩ := hs a q
        have no : ¬ (own F1 a ∨ H1 a = none) := fun z => z.elim (hP a q).1 fun z => by rw [hu] at z; cases z
        exact ⟨fun z => no (e2.oo a (.inl z)), fun z => no (e2.oo a (.inr z)), fun z => (e2.zo a z).elim (hP a q).2 no⟩
      have r1' : RpS X.K X.mg T none H2 Z2 sl (some v) P := rr.mono (fun b o hb z => kp b o hb (s1.dz b z)) (fun b o u hb => kp b _ hb (s1.nofrz hb)) e2.zz fun a q => by
        obtain ⟨u, hu⟩ := hs a q
        rw [hu]
        exact kp a u hu (hP a q).1
      refine h' (v :: ws) H2 Z2 F2 (P :: Qs) ?_ s2 ⟨v, ws, P, Qs, rfl, rfl, r1', fun a q Q hQ z => (nn a q).2.1 ⟨Q, hQ, z⟩, r2⟩ fun a q => ?_
      · have e12 : Ext H Z (fun a => own F a) H2 Z2 (fun a => own F2 a ∨ pend Qs a) := (e1.sub fun a z => .inl z).trans e2
        refine ⟨e12.keep, e12.zz, fun a z => ?_, e12.zo⟩
        rcases z with z | z
        · exact e12.oo a (.inl z)
        · rcases pend_cons.mp z with z | z
          · exact e1.oo a (.inr (pend_one.mpr z))
          · exact e12.oo a (.inr z)
      · rcases pend_cons.mp q with q | q
        · exact ⟨(nn a q).1, (nn a q).2.2⟩
        · exact n2 a q
theorem dvs_cons {e : Expr} {es : List Expr} {f : Fr Sl} {g : Fr (List Sl)} (ha : DV X T ξ W e f) (hr : DVs X T ξ W es g) (hs : starEach (e :: es) X.env = (false, eval e X.env) :: starEach es X.env := by rfl) : DVs X T ξ W (e :: es) (fsCons f g) := by
  refine (pa_cons ha hr hs).to fun σ H Q ⟨ρ, Z, F, s, h⟩ => ⟨ρ, Z, F, s, ?_⟩
  exact h.one
/-- such a value, frozen -/
@[simp] def Sl.frz : Sl → Option D
  | .dat d => some d
  | .ol ds => some (.lst ds)
  | .om dss => some (.lst (dss.map .lst))
  | _ => none
@[simp] def fFz (f : Fr Sl) : Fr D := fun ρ => (f ρ).bind fun s ρ' => match s.frz with
  | some d => .ok d ρ'
  | none => .st
theorem RpS.frz {s : Sl} {d : D} {v : V} {P : Z1} (r : RpS X.K X.mg T none H Z s (some v) P) (e : s.frz = some d) : Rp X.K X.mg H (fun a => Z a ∨ P a) d v := by
  cases s with
  | dat d' =>
    cases e
    obtain ⟨⟨w, e1, r⟩, _⟩ := r
    cases e1
    exact r.wider fun _ => .inl
  | ol ds =>
    cases e
    obtain ⟨p, vs, e1, e2, r, n, ip⟩ := r
    cases e1
    exact ⟨p, vs, rfl, ⟨.inr ((ip p).mpr rfl), e2⟩, r.wider fun _ => .inl, n⟩
  | om dss =>
    cases e
    obtain ⟨p, qs, e1, e2, nd, nm, r, n, ip⟩ := r
    cases e1
    exact ⟨p, _, rfl, ⟨.inr ((ip p).mpr (.inl rfl)), e2⟩, r.frz (fun _ => .inl) fun q hq => .inr ((ip q).mpr (.inr hq)), by rw [List.length_map]; exact n⟩
  | _ => cases e
theorem de_dv {e : Expr} {f : Fr Sl} (h : DV X T ξ W e f) : DE X T ξ W e (fFz f) := by
  refine PE.to h fun σ H Q ⟨ρ, Z, F, s, h⟩ => ⟨ρ, Z, F, s, ?_⟩
  unfold fFz at h
  unfold fOne
  cases e : f ρ with
  | st => rw [e] at h; exact h
  | ex n d ρ' => rw [e] at h; exact h
  | ok sl ρ1 =>
    rw [e] at h
    intro vs H1 Z1 F1 Ps e1 s1 r1 n1 v ev
    obtain ⟨v', P, rfl, rfl, rr⟩ := r1.one_inv
    cases ev
    cases ef : sl.frz with
    | none =>
      simp only [Res.bind, ef] at h
      exact h.elim
    | some d =>
      simp only [Res.bind, ef] at h
      have hP : ∀ a, P a → ¬ own F1 a ∧ ¬ Z1 a := fun a q => n1 a (pend_one.mpr q)
      refine h H1 (fun a => Z1 a ∨ P a) F1 ⟨e1.keep, fun a z => .inl (e1.zz a z), fun a z => e1.oo a (.inl z), fun a z => z.elim (e1.zo a) fun q => .inr (e1.oo a (.inr (pend_one.mpr q)))⟩ ?_ v (rr.frz ef)
      refine ⟨fun i => (s1.rep i).mono (fun _ _ h _ => h) (fun _ _ _ h => h) (fun _ => .inl) fun _ _ => rfl, s1.dj, s1.ln, fun i a h z => z.elim (s1.zf i a h) fun q => (hP a q).1 ⟨i, h⟩, fun a z => z.elim (s1.zh a) fun q => rr.has q⟩

theorem RpS.nofrz {s : Sl} {o : Option V} {P : Z1} (r : RpS X.K X.mg T ξ H Z s o P) {a : Addr} {ob : Obj} {u : HO} (h : H a = some (.frz ob u)) : ¬ P a := fun p => by
  cases s with
  | no => exact r a p
  | dat d => exact r.2 a p
  | ol ds =>
    obtain ⟨q, vs, _, hq, _, _, j⟩ := r
    obtain rfl := (j a).mp p
    rw [h] at hq; cases hq
  | om dss =>
    obtain ⟨q, qs, _, hq, _, _, hm, _, j⟩ := r
    rcases (j a).mp p with rfl | z
    · rw [h] at hq; cases hq
    · obtain ⟨vs, e⟩ := hm.mem a z
      rw [h] at e; cases e
  | dr q cells at_ left =>
    obtain ⟨_, c, l, h1, h2, h3, _, j⟩ := r
    rcases (j a).mp p with rfl | rfl | rfl
    · rw [h] at h1; cases h1
    · rw [h] at h2; cases h2
    · rw [h] at h3; cases h3
  | exc n d => exact r.2 a p
  | sc ns => exact r.2 a p

/-! ### 23. a slot rewritten -/
theorem Sta.rew {P P' : Z1} {sl : Sl} {m : Nat} (s : Sta X.K X.mg T ξ H Z F σ ρ) (hP : ∀ a, P a → ¬ own F a ∧ ¬ Z a) (hf : ∀ b o u, H b = some (.frz o u) → ¬ P b) (hm : m < ρ.length) (h : ∀ b o, H b = some o → ¬ F m b → ¬ P b → H' b = some o) (r : RpS X.K X.mg T ξ H' Z sl (σ.getD m none) P') (np : ∀ a, P' a → F m a ∨ P a) :
    Sta X.K X.mg T ξ H' Z (fset F m P') σ (ρ.set m sl) ∧ Ext H Z (fun a => own F a ∨ P a) H' Z (own (fset F m P')) := by
  have kz : ∀ b o, H b = some o → Z b → H' b = some o := fun b o e z => h b o e (fun q => s.zf m b q z) fun q => (hP b q).2 z
  refine ⟨⟨fun j => ?_, fun i j a n h1 h2 => ?_, by rw [List.length_set]; exact s.ln, fun i a h1 z => ?_, fun a z => ?_⟩, ⟨fun b o hb n => h b o hb (fun q => n (.inl ⟨m, q⟩)) fun q => n (.inr q), fun _ z => z, fun a z => ?_, fun _ z => .inl z⟩⟩
  · rw [getD_set hm]
    by_cases e : j = m
    · subst e
      rw [if_pos rfl, fset_same]
      exact r
    · rw [if_neg e, fset_ne e]
      refine (s.rep j).mono kz (fun b o u hb => h b _ hb (fun q => s.nofrz hb ⟨m, q⟩) (hf b o u hb)) (fun _ z => z) fun a pa => ?_
      · obtain ⟨u, hu⟩ := (s.rep j).has pa
        rw [hu]
        exact h a u hu (fun q => s.dj j m a e pa q) fun q => (hP a q).1 ⟨j, pa⟩
  · by_cases e1 : i = m
    · subst e1
      rw [fset_same] at h1
      rw [fset_ne (Ne.symm n)] at h2
      exact (np a h1).elim (fun q => s.dj i j a n q h2) fun q => (hP a q).1 ⟨j, h2⟩
    · by_cases e2 : j = m
      · subst e2
        rw [fset_same] at h2
        rw [fset_ne e1] at h1
        exact (np a h2).elim (fun q => s.dj i j a n h1 q) fun q => (hP a q).1 ⟨i, h1⟩
      · rw [fset_ne e1] at h1
        rw [fset_ne e2] at h2
        exact s.dj i j a n h1 h2
  · by_cases e1 : i = m
    · subst e1
      rw [fset_same] at h1
      exact (np a h1).elim (fun q => s.zf i a q z) fun q => (hP a q).2 z
    · rw [fset_ne e1] at h1
      exact s.zf i a h1 z
  · obtain ⟨o, e⟩ := s.zh a z
    exact ⟨o, kz a o e z⟩
  · obtain ⟨j, z⟩ := z
    by_cases e1 : j = m
    · subst e1
      rw [fset_same] at z
      exact .inl ((np a z).imp (fun q => ⟨j, q⟩) id)
    · rw [fset_ne e1] at z
      exact .inl (.inl ⟨j, z⟩)
end
end Dt
namespace Dt
open PySem PySem.Spec PyProof.Rows L2
section
variable {X : Cx} {T : Tab} {ξ : Xi} {W : WX} {σ σ' : L2.St} {ρ : Ro} {H H' : Hp} {Z Z' : Z1} {F : F1}

/-! ### 24. assignments -/
theorem Sta.putP {P : Z1} {sl : Sl} {i : Nat} {v : V} (s : Sta X.K X.mg T ξ H Z F σ ρ) (hP : ∀ a, P a → ¬ own F a ∧ ¬ Z a) (hi : i < ρ.length) (r : RpS X.K X.mg T none H Z sl (some v) P) :
    Sta X.K X.mg T ξ H Z (fset F i P) (σ.set i (some v)) (ρ.set i sl) ∧ Ext H Z (fun a => own F a ∨ P a) H Z (own (fset F i P)) :=
  ⟨s.put hi r.xi (fun a p j n q => (hP a p).1 ⟨j, q⟩) fun a p => (hP a p).2, (Ext.refl H Z _).sub fun a h => own_fset h⟩
@[simp] def fSet (i : Nat) (f : Fr Sl) : Fs := fun ρ => (f ρ).sr fun s ρ' => if i < ρ'.length then .nx (ρ'.set i s) else .st
theorem set_core {i : Nat} {f : Fr Sl} {E : Ends} (h : PsS X T ξ W (fSet i f ρ) E H Z F) : PstV X T ξ W σ (fOne f ρ) (fun vs H' => ∀ v, vs = [v] → E.nx (σ.set i (some v)) H') H Z F := by
  unfold fSet at h
  unfold fOne
  cases e : f ρ with
  | st => rw [e] at h; exact h
  | ex n d ρ' => rw [e] at h; exact fun v H' Z' F' da e' s' => h v σ H' Z' F' da e' s'
  | ok sl ρ1 =>
    rw [e] at h
    intro vs H1 Z1 F1 Ps e1 s1 r1 n1 v ev
    obtain ⟨v', P, rfl, rfl, rr⟩ := r1.one_inv
    cases ev
    have hP : ∀ a, P a → ¬ own F1 a ∧ ¬ Z1 a := fun a q => n1 a (pend_one.mpr q)
    by_cases c : i < ρ1.length
    · simp only [Res.sr, if_pos c] at h
      obtain ⟨s2, e2⟩ := s1.putP hP c rr
      exact h _ H1 Z1 _ ((e1.sub fun a z => z.imp id pend_one.mpr).trans e2) s2
    · simp only [Res.sr, if_neg c] at h
      exact h.elim
theorem ds_set (i : Nat) {x : Str} {e : Expr} {f : Fr Sl} {pos pos' : Pos} (hN : X.N.Nodup) (he : DV X T ξ W e f) (hi : X.N[i]? = some x := by rfl) (hx : Loc X.env.scope x := by first | exact Or.inl rfl | exact Or.inr rfl)
    (hs : swapsWith e (some (.Name x pos')) pos.line X.env = pure false := by rfl) (hf : X.fn x = true ∨ X.env.scope.names.lookup x = some .local := by first | exact .inl rfl | exact .inr rfl) : DS X T ξ W (.Assign [.Name x pos'] e pos) (fSet i f) :=
  (ps_set hN hi hx he hs hf).to fun E σ H ⟨ρ, Z, F, s, h⟩ => ⟨ρ, Z, F, s, set_core h⟩
@[simp] def fAsg (f : Fr D) (b : D → Ro → Option Ro) : Fs := fun ρ => (f ρ).sr fun d ρ' => match b d ρ' with
  | some ρ'' => .nx ρ''
  | none => .st
theorem ds_asg {tg e : Expr} {f : Fr D} {vs : List Nat} {b : D → Ro → Option Ro} {pos : Pos} (he : DE X T ξ W e f) (hg : DG X T ξ vs tg b) (hs : swapsWithSole [tg] e pos.line X.env = pure false := by rfl) (hw : swappedStores [tg] e X.env = pure none := by rfl)
    (h1 : (assignEach [tg] X.env).map (·.2) = [assign tg X.env] := by rfl) : DS X T ξ W (.Assign [tg] e pos) (fAsg f b) := by
  refine (ps_asg he hg hs hw h1).to fun E σ H ⟨ρ, Z, F, s, h⟩ => ⟨ρ, Z, F, s, (Pst.sr h).imp fun d ρ1 H1 Z1 F1 e1 s1 k v rv => ?_⟩
  cases eb : b d ρ1 with
  | none => simp only [eb] at k; exact k.elim
  | some ρ2 =>
    simp only [eb] at k
    exact ⟨ρ1, Z1, F1, d, s1, rv, ρ2, eb, fun σ' H' Z' F' _ e' s' => k σ' H' Z' F' e' s'⟩
@[simp] def fPar2 (i j : Nat) (g : Fr (List Sl)) : Fs := fun ρ => (g ρ).sr fun ss ρ' => match ss with
  | [s, t] => if i < ρ'.length ∧ j < ρ'.length then .nx ((ρ'.set i s).set j t) else .st
  | _ => .st
theorem RpSs.two_inv {s t : Sl} {vs : List V} {Ps : List Z1} (r : RpSs X T H Z [s, t] vs Ps) : ∃ v w P Q, vs = [v, w] ∧ Ps = [P, Q] ∧ RpS X.K X.mg T none H Z s (some v) P ∧ RpS X.K X.mg T none H Z t (some w) Q ∧ ∀ a, P a → ¬ Q a := by
  obtain ⟨v, vs', P, Ps', rfl, rfl, r, n, r2⟩ := r
  obtain ⟨w, Q, rfl, rfl, r3⟩ := r2.one_inv
  exact ⟨v, w, P, Q, rfl, rfl, r, r3, fun a p => n a p Q List.mem_cons_self⟩
theorem ds_par2 (i j : Nat) {x y : Str} {a b : Expr} {g : Fr (List Sl)} {px py pt pos : Pos} {kt k2 pt2} (hc : X.calm = true) (hN : X.N.Nodup) (ha : DVs X T ξ W [a, b] g) (hi : X.N[i]? = some x := by rfl) (hj : X.N[j]? = some y := by rfl) (hij : i ≠ j := by decide)
    (hx : X.env.scope.names.lookup x = some .local := by rfl) (hy : X.env.scope.names.lookup y = some .local := by rfl)
    (hw : swappedStores [.Tuple [.Name x px, .Name y py] kt pt] (.Tuple [a, b] k2 pt2) X.env = pure (some [x, y]) := by rfl)
    (hs : swapsWithSole [.Tuple [.Name x px, .Name y py] kt pt] (.Tuple [a, b] k2 pt2) pos.line X.env = pure false := by rfl) :
    DS X T ξ W (.Assign [.Tuple [.Name x px, .Name y py] kt pt] (.Tuple [a, b] k2 pt2) pos) (fPar2 i j g) := by
  refine (ps_par hc hN hi hj hij hx hy ha hw hs).to fun E σ H ⟨ρ, Z, F, s, h⟩ => ⟨ρ, Z, F, s, ?_⟩
  unfold fPar2 at h
  cases e : g ρ with
  | st => rw [e] at h; exact h
  | ex n d ρ' => rw [e] at h; exact fun v H' Z' F' da e' s' => h v σ H' Z' F' da e' s'
  | ok ss ρ1 =>
    rw [e] at h
    intro vs H1 Z1 F1 Ps e1 s1 r1 n1
    match ss, h, r1 with
    | [], h, _ => exact h.elim
    | [_], h, _ => exact h.elim
    | _ :: _ :: _ :: _, h, _ => exact h.elim
    | [sl, tl], h, r1 =>
      obtain ⟨v, w, P, Q, rfl, rfl, rr, rq, dq⟩ := r1.two_inv
      by_cases c : i < ρ1.length ∧ j < ρ1.length
      · simp only [Res.sr, if_pos c] at h
        obtain ⟨s2, e2⟩ := s1.putP (fun a q => n1 a (pend_cons.mpr (.inl q))) c.1 rr
        obtain ⟨s3, e3⟩ := s2.putP (P := Q) (fun a q => ⟨fun z => (own_fset z).elim (n1 a (pend_cons.mpr (.inr (pend_one.mpr q)))).1 fun p => dq a p q, (n1 a (pend_cons.mpr (.inr (pend_one.mpr q)))).2⟩) (by rw [List.length_set]; exact c.2) rq
        refine ⟨v, w, rfl, h _ H1 Z1 _ ?_ s3⟩
        refine ⟨e1.keep, e1.zz, fun a z => ?_, e1.zo⟩
        rcases own_fset z with z | z
        · rcases own_fset z with z | z
          · exact e1.oo a (.inl z)
          · exact e1.oo a (.inr (pend_cons.mpr (.inl z)))
        · exact e1.oo a (.inr (pend_cons.mpr (.inr (pend_one.mpr z))))
      · simp only [Res.sr, if_neg c] at h
        exact h.elim
@[simp] def fPar3 (i j l : Nat) (g : Fr (List Sl)) : Fs := fun ρ => (g ρ).sr fun ss ρ' => match ss with
  | [s, t, u] => if i < ρ'.length ∧ j < ρ'.length ∧ l < ρ'.length then .nx (((ρ'.set i s).set j t).set l u) else .st
  | _ => .st
theorem ds_par3 (i j l : Nat) {x y z : Str} {a b c : Expr} {g : Fr (List Sl)} {px py pz pt pos : Pos} {kt k2 pt2} (hc : X.calm = true) (hN : X.N.Nodup) (ha : DVs X T ξ W [a, b, c] g) (hi : X.N[i]? = some x := by rfl) (hj : X.N[j]? = some y := by rfl) (hl : X.N[l]? = some z := by rfl)
    (hij : i ≠ j := by decide) (hil : i ≠ l := by decide) (hjl : j ≠ l := by decide)
    (hx : X.env.scope.names.lookup x = some .local := by rfl) (hy : X.env.scope.names.lookup y = some .local := by rfl) (hz : X.env.scope.names.lookup z = some .local := by rfl)
    (hw : swappedStores [.Tuple [.Name x px, .Name y py, .Name z pz] kt pt] (.Tuple [a, b, c] k2 pt2) X.env = pure (some [x, y, z]) := by rfl)
    (hs : swapsWithSole [.Tuple [.Name x px, .Name y py, .Name z pz] kt pt] (.Tuple [a, b, c] k2 pt2) pos.line X.env = pure false := by rfl) :
    DS X T ξ W (.Assign [.Tuple [.Name x px, .Name y py, .Name z pz] kt pt] (.Tuple [a, b, c] k2 pt2) pos) (fPar3 i j l g) := by
  refine (ps_par3 hc hN hi hj hl hij hil hjl hx hy hz ha hw hs).to fun E σ H ⟨ρ, Z, F, s, h⟩ => ⟨ρ, Z, F, s, ?_⟩
  unfold fPar3 at h
  cases e : g ρ with
  | st => rw [e] at h; exact h
  | ex n d ρ' => rw [e] at h; exact fun v H' Z' F' da e' s' => h v σ H' Z' F' da e' s'
  | ok ss ρ1 =>
    rw [e] at h
    intro vs H1 Z1 F1 Ps e1 s1 r1 n1
    match ss, h, r1 with
    | [], h, _ => exact h.elim
    | [_], h, _ => exact h.elim
    | [_, _], h, _ => exact h.elim
    | _ :: _ :: _ :: _ :: _, h, _ => exact h.elim
    | [sl, tl, ul], h, r1 =>
      obtain ⟨v, vs', P, Ps', rfl, rfl, rr, dd, r1⟩ := r1
      obtain ⟨w, x, Q, R, rfl, rfl, rq, rx, dq⟩ := r1.two_inv
      have hQ := fun a q => n1 a (pend_cons.mpr (.inr (pend_cons.mpr (.inl q))))
      have hR := fun a q => n1 a (pend_cons.mpr (.inr (pend_cons.mpr (.inr (pend_one.mpr q)))))
      by_cases c : i < ρ1.length ∧ j < ρ1.length ∧ l < ρ1.length
      · simp only [Res.sr, if_pos c] at h
        obtain ⟨s2, e2⟩ := s1.putP (fun a q => n1 a (pend_cons.mpr (.inl q))) c.1 rr
        obtain ⟨s3, e3⟩ := s2.putP (P := Q) (fun a q => ⟨fun z => (own_fset z).elim (hQ a q).1 fun p => dd a p Q List.mem_cons_self q, (hQ a q).2⟩) (by rw [List.length_set]; exact c.2.1) rq
        obtain ⟨s4, e4⟩ := s3.putP (P := R) (fun a q => ⟨fun z => (own_fset z).elim (fun z => (own_fset z).elim (hR a q).1 fun p => dd a p R (List.mem_cons_of_mem _ List.mem_cons_self) q) fun p => dq a p q, (hR a q).2⟩) (by rw [List.length_set, List.length_set]; exact c.2.2) rx
        refine ⟨v, w, x, rfl, h _ H1 Z1 _ ?_ s4⟩
        refine ⟨e1.keep, e1.zz, fun a z => ?_, e1.zo⟩
        rcases own_fset z with z | z
        · rcases own_fset z with z | z
          · rcases own_fset z with z | z
            · exact e1.oo a (.inl z)
            · exact e1.oo a (.inr (pend_cons.mpr (.inl z)))
          · exact e1.oo a (.inr (pend_cons.mpr (.inr (pend_cons.mpr (.inl z)))))
        · exact e1.oo a (.inr (pend_cons.mpr (.inr (pend_cons.mpr (.inr (pend_one.mpr z))))))
      · simp only [Res.sr, if_neg c] at h
        exact h.elim
/-- what a name holds is handed on, the name forgotten -/
@[simp] def fOwn (i : Nat) : Fr Sl := fun ρ => match ρ.getD i .no with
  | .dat d => .ok (.dat d) ρ
  | .ol ds => .ok (.ol ds) (ρ.set i .no)
  | .om dss => .ok (.om dss) (ρ.set i .no)
  | .dr p a b c => .ok (.dr p a b c) (ρ.set i .no)
  | _ => .st
theorem Sta.forget (s : Sta X.K X.mg T ξ H Z F σ ρ) (i : Nat) : Sta X.K X.mg T ξ H Z (wipeF F [i]) σ (ρ.set i .no) := s.wipedR [i]
theorem Sta.forget_own (s : Sta X.K X.mg T ξ H Z F σ ρ) (i : Nat) {a : Addr} (h : F i a) : ¬ own (wipeF F [i]) a ∧ ¬ Z a := by
  refine ⟨fun ⟨j, q⟩ => ?_, s.zf i a h⟩
  unfold wipeF at q
  by_cases e : j ∈ [i]
  · rw [if_pos e] at q; exact q
  · rw [if_neg e] at q
    exact s.dj j i a (by simpa using e) q h
theorem dv_own (i : Nat) {x : Str} {pos : Pos} (hN : X.N[i]? = some x := by rfl) (hv : Vis X.env.scope x := by first | exact Or.inl rfl | exact Or.inr (Or.inl rfl) | exact Or.inr (Or.inr rfl)) (hd : (x == ("__debug__" : Str)) = false := by decide) (hcd : (x == ("__classdict__" : Str)) = false := by decide) :
    DV X T ξ W (.Name x pos) (fOwn i) := by
  refine (pe_var hN hv hd hcd).to fun σ H Q ⟨ρ, Z, F, s, h⟩ => ?_
  have r := s.rep i
  have hand : ∀ {sl : Sl} {v : V}, σ.getD i none = some v → RpS X.K X.mg T none H Z sl (some v) (F i) → PstV X T ξ W σ (.ok [sl] (ρ.set i .no)) (fun vs H' => ∀ v, vs = [v] → Q v H') H Z F → Q v H := fun {sl v} ev r h => by
    refine h [v] H Z (wipeF F [i]) [F i] ((Ext.refl H Z (own F)).sub fun a z => z.elim own_wipeF fun q => ⟨i, pend_one.mp q⟩) (s.forget i) (RpSs.one r) (fun a q => s.forget_own i (pend_one.mp q)) v rfl
  unfold fOne fOwn at h
  cases e : ρ.getD i .no with
  | dat d =>
    rw [e] at h r
    obtain ⟨⟨v, e1, r1⟩, hn⟩ := r
    refine ⟨v, getD_some e1, h [v] H Z F [fun _ => False] ((Ext.refl H Z (own F)).sub fun a z => z.elim id fun q => (pend_one.mp q).elim) s (RpSs.one ⟨⟨v, rfl, r1⟩, fun _ z => z⟩) (fun a q => (pend_one.mp q).elim) v rfl⟩
  | ol ds =>
    rw [e] at h r
    obtain ⟨p, vs, e1, r1⟩ := r
    exact ⟨.ref p, getD_some e1, hand (sl := .ol ds) e1 ⟨p, vs, rfl, r1⟩ h⟩
  | om dss =>
    rw [e] at h r
    obtain ⟨p, qs, e1, r1⟩ := r
    exact ⟨.ref p, getD_some e1, hand (sl := .om dss) e1 ⟨p, qs, rfl, r1⟩ h⟩
  | dr p a b c =>
    rw [e] at h r
    obtain ⟨e1, r1⟩ := r
    exact ⟨.ref p, getD_some e1, hand (sl := .dr p a b c) e1 ⟨rfl, r1⟩ h⟩
  | no => rw [e] at h; exact h.elim
  | exc _ _ => rw [e] at h; exact h.elim
  | sc _ => rw [e] at h; exact h.elim

/-! ### 25. return, an expression dropped, if, pass, break, continue -/
@[simp] def fRet (f : Fr Sl) : Fs := fun ρ => (f ρ).sr fun s ρ' => .rt s ρ'
theorem ds_ret {e : Expr} {f : Fr Sl} {pos : Pos} (he : DV X T ξ W e f) : DS X T ξ W (.Return (some e) pos) (fRet f) := by
  refine (ps_ret he).to fun E σ H ⟨ρ, Z, F, s, h⟩ => ⟨ρ, Z, F, s, ?_⟩
  unfold fRet at h
  unfold fOne
  cases e : f ρ with
  | st => rw [e] at h; exact h
  | ex n d ρ' => rw [e] at h; exact fun v H' Z' F' da e' s' => h v σ H' Z' F' da e' s'
  | ok sl ρ1 =>
    rw [e] at h
    intro vs H1 Z1 F1 Ps e1 s1 r1 n1 v ev
    obtain ⟨v', P, rfl, rfl, rr⟩ := r1.one_inv
    cases ev
    exact h v σ H1 Z1 F1 P (e1.sub fun a z => z.imp id pend_one.mpr) s1 rr fun a q => n1 a (pend_one.mpr q)
@[simp] def fExpr {α : Type} (f : Fr α) : Fs := fun ρ => (f ρ).sr fun _ ρ' => .nx ρ'
theorem ds_expr {e : Expr} {f : Fr D} {pos : Pos} (he : DE X T ξ W e f) (hs : swapsWith e none pos.line X.env = pure false := by rfl) : DS X T ξ W (.Expr e pos) (fExpr f) :=
  (ps_expr he hs).to fun E σ H ⟨ρ, Z, F, s, h⟩ => ⟨ρ, Z, F, s, (Pst.sr h).imp fun d ρ1 H1 Z1 F1 e1 s1 k v rv => k σ H1 Z1 F1 (Ext.refl _ _ _) s1⟩
@[simp] def fPass : Fs := fun ρ => .nx ρ
theorem ds_pass {pos : Pos} : DS X T ξ W (.Pass pos) fPass := ps_pass.to fun E σ H ⟨ρ, Z, F, s, h⟩ => h σ H Z F (Ext.refl _ _ _) s
@[simp] def fBrk : Fs := fun ρ => .bk ρ
theorem ds_brk {pos : Pos} : DS X T ξ W (.Break pos) fBrk := ps_break.to fun E σ H ⟨ρ, Z, F, s, h⟩ => h σ H Z F (Ext.refl _ _ _) s
@[simp] def fCnt : Fs := fun ρ => .ct ρ
theorem ds_cnt {pos : Pos} : DS X T ξ W (.Continue pos) fCnt := ps_continue.to fun E σ H ⟨ρ, Z, F, s, h⟩ => h σ H Z F (Ext.refl _ _ _) s
@[simp] def fIfS (c : Fr Bool) (f g : Fs) : Fs := fun ρ => (c ρ).sr fun b ρ' => if b = true then f ρ' else g ρ'
theorem ds_if {c : Expr} {a b : List Stmt} {t : Fr Bool} {f g : Fs} {pos : Pos} (hc : DT X T ξ W c t) (ha : DSs X T ξ W a f) (hb : DSs X T ξ W b g) : DS X T ξ W (.If c a b pos) (fIfS t f g) := by
  refine (ps_if hc ha hb).to fun E σ H ⟨ρ, Z, F, s, h⟩ => ⟨ρ, Z, F, s, (Pst.sr h).imp fun b ρ1 H1 Z1 F1 e1 s1 k => ?_⟩
  cases b with
  | true => exact ⟨ρ1, Z1, F1, s1, k⟩
  | false => exact ⟨ρ1, Z1, F1, s1, k⟩
@[simp] def fSeq (f g : Fs) : Fs := fun ρ => match f ρ with
  | .nx ρ' => g ρ'
  | r => r
theorem dss_nil : DSs X T ξ W [] fPass := pss_nil.to fun E σ H ⟨ρ, Z, F, s, h⟩ => h σ H Z F (Ext.refl _ _ _) s
theorem dss_one {st : Stmt} {f : Fs} (h : DS X T ξ W st f) : DSs X T ξ W [st] f := pss_one h
theorem dss_cons {st : Stmt} {rest : List Stmt} {f g : Fs} (h1 : DS X T ξ W st f) (h2 : DSs X T ξ W rest g) : DSs X T ξ W (st :: rest) (fSeq f g) := by
  refine (pss_cons h1 h2).to fun E σ H ⟨ρ, Z, F, s, h⟩ => ⟨ρ, Z, F, s, ?_⟩
  unfold fSeq at h
  cases e : f ρ with
  | nx ρ1 => rw [e] at h; exact fun σ' H' Z' F' e' s' => ⟨ρ1, Z', F', s', PsS.shift e' h⟩
  | bk ρ1 => rw [e] at h; exact h
  | ct ρ1 => rw [e] at h; exact h
  | rt sl ρ1 => rw [e] at h; exact h
  | ex n d ρ1 => rw [e] at h; exact h
  | st => rw [e] at h; exact h
/-- names forgotten -/
def fWipe (vs : List Nat) (f : Fs) : Fs := fun ρ => f (wipeR ρ vs)
theorem ext_wipe (vs : List Nat) : Ext H Z (own F) H Z (own (wipeF F vs)) := (Ext.refl H Z (own F)).sub fun _ h => own_wipeF h
theorem dss_wipe (vs : List Nat) {st : List Stmt} {f : Fs} (h : DSs X T ξ W st f) : DSs X T ξ W st (fWipe vs f) :=
  h.to fun E σ H ⟨ρ, Z, F, s, h⟩ => ⟨_, Z, _, s.wipedR vs, PsS.shift (ext_wipe vs) h⟩

/-! ### 26. for, while -/
def forGo (vs : List Nat) (b : D → Ro → Option Ro) (body : Fs) : List D → Fs
  | [], ρ => .nx (wipeR ρ vs)
  | d :: ds, ρ => match b d (wipeR ρ vs) with
    | none => .st
    | some ρ2 => match body ρ2 with
      | .nx ρ3 => forGo vs b body ds ρ3
      | .ct ρ3 => forGo vs b body ds ρ3
      | .bk ρ3 => .nx (wipeR ρ3 vs)
      | r => r
@[simp] def fFor (vs : List Nat) (src : Fr (List D)) (b : D → Ro → Option Ro) (body : Fs) : Fs := fun ρ => (src ρ).sr fun ds ρ1 => forGo vs b body ds ρ1
theorem ds_for (vs : List Nat) {tg iter : Expr} {body : List Stmt} {ws : List Nat} {src : Fr (List D)} {b : D → Ro → Option Ro} {f : Fs} {pos : Pos} (hp : PassesOwn (model X.prog X.w) X.A X.env X.xe) (hc : X.calm = true) (hi : DI X T ξ W tg iter src) (hg : DG X T ξ ws tg b) (hb : DSs X T ξ W body f)
    (hs : ∀ x, foldedSetIterable iter X.env x = pure x := by intro _; rfl) : DS X T ξ W (.For tg iter body [] pos) (fFor vs src b f) := by
  refine (ps_for hp hc hi hg hb hs).to fun E σ H ⟨ρ, Z, F, s, h⟩ => ⟨ρ, Z, F, s, (Pst.sr h).imp fun ds ρ1 H1 Z1 F1 e1 s1 k hlen J wk => ?_⟩
  refine ⟨fun i m σ H => m = ds.length - i ∧ i ≤ ds.length ∧ ∃ ρ Z F, Ext H1 Z1 (own F1) H Z (own F) ∧ Sta X.K X.mg T ξ H Z F σ ρ ∧ PsS X T ξ W (forGo vs b f (ds.drop i) ρ) E H Z F, ⟨ds.length, by simp, Nat.zero_le _, ρ1, Z1, F1, Ext.refl _ _ _, s1, k⟩, ?_⟩
  rintro i m σ2 H2 ⟨rfl, hil, ρ2, Z2, F2, e2, s2, k2⟩
  have kp2 : Kp H1 Z1 H2 := e2.kp s1.dz
  by_cases hlt : i < ds.length
  · refine .inr ⟨wk.go i ds[i] H2 kp2 (List.getElem?_eq_getElem hlt), fun σ' H' => i + 1 ≤ ds.length ∧ ∃ ρ Z F, Ext H1 Z1 (own F1) H' Z (own F) ∧ Sta X.K X.mg T ξ H' Z F σ' ρ ∧ PsS X T ξ W (forGo vs b f (ds.drop (i + 1)) ρ) E H' Z F, fun σ' H' ⟨g1, g2⟩ => ⟨_, by omega, rfl, g1, g2⟩, fun x H3 y3 => ?_⟩
    obtain ⟨Z3, e3, zh3, rx⟩ := wk.yld i ds[i] H2 x H3 Z2 kp2 e2.zz s2.zh (List.getElem?_eq_getElem hlt) y3
    have s3 := (s2.grow e3 zh3).wipedR vs
    have e23 : Ext H2 Z2 (own F2) H3 Z3 (own (wipeF F2 vs)) := (e3.grow (O := own F2)).sub fun a z => .inl (own_wipeF z)
    rw [List.drop_eq_getElem_cons hlt] at k2
    unfold forGo at k2
    cases eb : b ds[i] (wipeR ρ2 vs) with
    | none => simp only [eb] at k2; exact k2.elim
    | some ρ4 =>
      simp only [eb] at k2
      refine ⟨_, Z3, _, ds[i], s3, rx, ρ4, eb, fun σ4 H4 Z4 F4 _ e4 s4 => ⟨ρ4, Z4, F4, s4, ?_⟩⟩
      have e24 := e23.trans e4
      have e14 := e2.trans e24
      cases ef : f ρ4 with
      | nx ρ5 =>
        simp only [ef] at k2
        exact fun σ' H' Z' F' e' s' => ⟨hlt, ρ5, Z', F', e14.trans e', s', PsS.shift (e24.trans e') k2⟩
      | ct ρ5 =>
        simp only [ef] at k2
        exact fun σ' H' Z' F' e' s' => ⟨hlt, ρ5, Z', F', e14.trans e', s', PsS.shift (e24.trans e') k2⟩
      | bk ρ5 =>
        simp only [ef] at k2
        exact fun σ' H' Z' F' e' s' => k2 σ' H' Z' _ ((e24.trans e').trans (ext_wipe vs)) (s'.wipedR vs)
      | rt sl ρ5 =>
        simp only [ef] at k2
        exact fun v σ' H' Z' F' P e' s' => k2 v σ' H' Z' F' P (e24.trans e') s'
      | ex n d ρ5 =>
        simp only [ef] at k2
        exact fun v σ' H' Z' F' da e' s' => k2 v σ' H' Z' F' da (e24.trans e') s'
      | st => simp only [ef] at k2; exact k2.elim
  · have hie : i = ds.length := by omega
    subst hie
    rw [List.drop_length] at k2
    exact .inl ⟨wk.stop _ H2 kp2 (Nat.le_refl _), k2 σ2 H2 Z2 _ (ext_wipe vs) (s2.wipedR vs)⟩
def whGo (vs : List Nat) (c : Fr Bool) (body : Fs) : Nat → Fs
  | 0, _ => .st
  | n + 1, ρ => (c (wipeR ρ vs)).sr fun t ρ1 => if t = true then (match body ρ1 with
      | .nx ρ2 => whGo vs c body n ρ2
      | .ct ρ2 => whGo vs c body n ρ2
      | .bk ρ2 => .nx (wipeR ρ2 vs)
      | r => r) else .nx ρ1
open Classical in
noncomputable def fWh (vs : List Nat) (c : Fr Bool) (body : Fs) : Fs := fun ρ => if h : ∃ n, whGo vs c body n ρ ≠ .st then whGo vs c body h.choose ρ else .st
theorem whGo_succ {vs : List Nat} {c : Fr Bool} {body : Fs} : ∀ {n : Nat} {ρ : Ro} {r : Sr}, whGo vs c body n ρ = r → r ≠ .st → whGo vs c body (n + 1) ρ = r
  | 0, ρ, r, h, n => absurd h.symm n
  | n + 1, ρ, r, h, nr => by
    unfold whGo at h ⊢
    cases ec : c (wipeR ρ vs) with
    | st => simp only [ec, Res.sr] at h ⊢; exact h
    | ex k d ρ1 => simp only [ec, Res.sr] at h ⊢; exact h
    | ok t ρ1 =>
      simp only [ec, Res.sr] at h ⊢
      cases t with
      | false => exact h
      | true =>
        simp only [if_true] at h ⊢
        cases eb : body ρ1 with
        | nx ρ2 => simp only [eb] at h ⊢; exact whGo_succ h nr
        | ct ρ2 => simp only [eb] at h ⊢; exact whGo_succ h nr
        | bk ρ2 => simp only [eb] at h ⊢; exact h
        | rt sl ρ2 => simp only [eb] at h ⊢; exact h
        | ex k d ρ2 => simp only [eb] at h ⊢; exact h
        | st => simp only [eb] at h ⊢; exact h
theorem whGo_le {vs : List Nat} {c : Fr Bool} {body : Fs} {n m : Nat} {ρ : Ro} {r : Sr} (h : whGo vs c body n ρ = r) (nr : r ≠ .st) (le : n ≤ m) : whGo vs c body m ρ = r := by
  induction le with
  | refl => exact h
  | step _ ih => exact whGo_succ ih nr
theorem fWh_of {vs : List Nat} {c : Fr Bool} {body : Fs} {n : Nat} {ρ : Ro} {r : Sr} (h : whGo vs c body n ρ = r) (nr : r ≠ .st) : fWh vs c body ρ = r := by
  have ex : ∃ n, whGo vs c body n ρ ≠ .st := ⟨n, by rw [h]; exact nr⟩
  unfold fWh
  rw [dif_pos ex]
  have q : whGo vs c body (max n ex.choose) ρ = r := whGo_le h nr (Nat.le_max_left _ _)
  rw [← q]
  exact (whGo_le rfl ex.choose_spec (Nat.le_max_right _ _)).symm
theorem ds_while (vs : List Nat) {c : Expr} {body : List Stmt} {t : Fr Bool} {f : Fs} {pos : Pos} (hp : PassesOwn (model X.prog X.w) X.A X.env X.xe) (hc : DT X T ξ W c t) (hb : DSs X T ξ W body f) : DS X T ξ W (.While c body [] pos) (fWh vs t f) := by
  refine (ps_while hp hc hb).to fun E σ H ⟨ρ, Z, F, s, h⟩ => ?_
  unfold fWh at h
  by_cases ex : ∃ n, whGo vs t f n ρ ≠ .st
  · rw [dif_pos ex] at h
    refine ⟨fun m σ H => ∃ ρ Z F, Sta X.K X.mg T ξ H Z F σ ρ ∧ PsS X T ξ W (whGo vs t f m ρ) E H Z F, ⟨_, ρ, Z, F, s, h⟩, ?_⟩
    rintro m σ1 H1 ⟨ρ1, Z1, F1, s1, k1⟩
    cases m with
    | zero => exact k1.elim
    | succ m =>
      unfold whGo at k1
      refine ⟨_, Z1, _, s1.wipedR vs, (Pst.sr (PsS.shift (ext_wipe vs) k1)).imp fun b ρ2 H2 Z2 F2 e2 s2 k2 => ?_⟩
      cases b with
      | false => exact k2 σ1 H2 Z2 F2 (Ext.refl _ _ _) s2
      | true =>
        simp only [if_true] at k2 ⊢
        refine ⟨fun σ' H' => ∃ ρ Z F, Sta X.K X.mg T ξ H' Z F σ' ρ ∧ PsS X T ξ W (whGo vs t f m ρ) E H' Z F, fun σ' H' q => ⟨m, Nat.lt_succ_self m, q⟩, ρ2, Z2, F2, s2, ?_⟩
        cases ef : f ρ2 with
        | nx ρ5 =>
          simp only [ef] at k2
          exact fun σ' H' Z' F' e' s' => ⟨ρ5, Z', F', s', PsS.shift e' k2⟩
        | ct ρ5 =>
          simp only [ef] at k2
          exact fun σ' H' Z' F' e' s' => ⟨ρ5, Z', F', s', PsS.shift e' k2⟩
        | bk ρ5 =>
          simp only [ef] at k2
          exact fun σ' H' Z' F' e' s' => k2 σ' H' Z' _ (e'.trans (ext_wipe vs)) (s'.wipedR vs)
        | rt sl ρ5 => simp only [ef] at k2; exact k2
        | ex n d ρ5 => simp only [ef] at k2; exact k2
        | st => simp only [ef] at k2; exact k2.elim
  · rw [dif_neg ex] at h
    exact h.elim
end
end Dt
namespace Dt
open PySem PySem.Spec PyProof.Rows L2
section
variable {X : Cx} {T : Tab} {ξ : Xi} {W : WX} {σ σ' : L2.St} {ρ : Ro} {H H' : Hp} {Z Z' : Z1} {F : F1}

/-! ### 27. a list of one's own, written -/
/-- the list in slot m becomes another one, at its place -/
theorem Sta.relist (s : Sta X.K X.mg T ξ H Z F σ ρ) {m : Nat} {ds es : List D} {p : Addr} {us : List V} (e : ρ.getD m .no = .ol ds) (ep : σ.getD m none = some (.ref p)) (r : RpL X.K X.mg H Z es us) (hl : es.length ≤ sizeLine) :
    Sta X.K X.mg T ξ (upd H p (.lst us)) Z (fset F m (F m)) σ (ρ.set m (.ol es)) ∧ Ext H Z (own F) (upd H p (.lst us)) Z (own (fset F m (F m))) := by
  have rm := s.rep m
  rw [e, ep] at rm
  obtain ⟨p', vs, e1, e2, _, _, ip⟩ := rm
  cases e1
  have fp : F m p := (ip p).mpr rfl
  have nz : ¬ Z p := s.zf m p fp
  obtain ⟨a, b⟩ := s.rew (P := fun _ => False) (P' := F m) (sl := .ol es) (H' := upd H p (.lst us)) (fun _ z => z.elim) (fun _ _ _ _ z => z) (lt_of_getD e nofun) (fun b o hb n _ => (upd_ne fun q => n (by rw [q]; exact fp)).trans hb) (by
      rw [ep]
      exact ⟨p, us, rfl, upd_same, r.other (fun b n => upd_ne n) nz, hl, ip⟩) fun a q => .inl q
  exact ⟨a, ⟨fun c o hc n => b.keep c o hc fun z => z.elim n id, b.zz, fun c z => (b.oo c z).imp (fun z => z.elim id fun z => z.elim) id, fun c z => (b.zo c z).imp id fun z => z.imp (fun z => z.elim id fun z => z.elim) id⟩⟩
@[simp] def bSub (m : Nat) (g : Fr D) : D → Ro → Option Ro := fun d ρ => match ρ.getD m .no with
  | .ol _ => match g ρ with
    | .ok (.int k) ρ1 => match ρ1.getD m .no with
      | .ol ds => (ixN ds.length k).map fun j => ρ1.set m (.ol (ds.set j d))
      | _ => none
    | _ => none
  | _ => none
theorem plain_sub {o i : Expr} {pos : Pos} {X : Cx} (h : ∀ v, assign (.Subscript o i pos) X.env v = (do
      let ov ← holding [v] (eval o X.env)
      let iv ← holding [v, ov] (eval i X.env)
      standAt pos
      holding [v, ov, iv] (setItem ov iv v)
      release [v, ov, iv] [])) : True := True.intro
theorem dg_sub (m : Nat) {x : Str} {i : Expr} {g : Fr D} {p1 pos : Pos} (hi : DE X T ξ W0 i g) (hN : X.N[m]? = some x := by rfl) (hv : Vis X.env.scope x := by first | exact Or.inl rfl | exact Or.inr (Or.inl rfl) | exact Or.inr (Or.inr rfl)) (hd : (x == ("__debug__" : Str)) = false := by decide) (hcd : (x == ("__classdict__" : Str)) = false := by decide)
    (ha : ∀ v, assign (.Subscript (.Name x p1) i pos) X.env v = (do
      let ov ← holding [v] (eval (.Name x p1) X.env)
      let iv ← holding [v, ov] (eval i X.env)
      standAt pos
      holding [v, ov, iv] (setItem ov iv v)
      release [v, ov, iv] []) := by intro _; rfl) : DG X T ξ [] (.Subscript (.Name x p1) i pos) (bSub m g) := by
  refine (pg_sub (pe_var hN hv hd hcd) hi set_list ha).to fun v σ H Q ⟨ρ, Z, F, d, s, r, ρ', e, k⟩ => ?_
  have rm := s.rep m
  unfold bSub at e
  cases e0 : ρ.getD m .no with
  | ol ds0 =>
    rw [e0] at rm
    simp only [e0] at e
    obtain ⟨p, vs0, ep, _⟩ := rm
    cases eg : g ρ with
    | st => simp only [eg] at e; cases e
    | ex _ _ _ => simp only [eg] at e; cases e
    | ok i ρ1 =>
      cases i with
      | int i =>
        simp only [eg] at e
        cases e1 : ρ1.getD m .no with
        | ol ds =>
          simp only [e1] at e
          cases ej : ixN ds.length i with
          | none => rw [ej] at e; cases e
          | some j =>
            rw [ej] at e
            cases e
            refine ⟨.ref p, getD_some ep, ρ, Z, F, s, ?_⟩
            rw [eg]
            intro H1 Z1 F1 x1 s1 w rw'
            cases (show w = _ from rw')
            have rm1 := s1.rep m
            rw [e1, ep] at rm1
            obtain ⟨p', vs, ep', hp, rl, hl, _⟩ := rm1
            cases ep'
            have rv := Rp.ext x1 s.dz r
            obtain ⟨s2, x2⟩ := s1.relist e1 ep (rl.set j rv) (by rw [List.length_set]; exact hl)
            exact ⟨p, vs, i, j, rfl, rfl, hp, by rw [rl.length]; exact ej, k _ _ _ _ (.refl _ _) (x1.trans x2) s2⟩
        | _ => simp only [e1] at e; cases e
      | _ => simp only [eg] at e; cases e
  | _ => simp only [e0] at e; cases e
section
variable {e : Expr} {f : Fr D} {x : Str} {p1 p2 p3 pos : Pos}
@[simp] def fApp (m : Nat) (f : Fr D) : Fs := fun ρ => match ρ.getD m .no with
  | .ol _ => (f ρ).sr fun d ρ1 => match ρ1.getD m .no with
    | .ol ds => if ds.length < lim then .nx (ρ1.set m (.ol (ds ++ [d]))) else .st
    | _ => .st
  | _ => .st
theorem ds_append (m : Nat) (he : DE X T ξ W e f) (hN : X.N[m]? = some x := by rfl) (hv : Vis X.env.scope x := by first | exact Or.inl rfl | exact Or.inr (Or.inl rfl) | exact Or.inr (Or.inr rfl)) (hd : (x == ("__debug__" : Str)) = false := by decide) (hcd : (x == ("__classdict__" : Str)) = false := by decide)
    (hbase : attributeBase (.Name x p1) "append" X.env (eval (.Name x p1) X.env) = eval (.Name x p1) X.env := by rfl)
    (hfew : ((backTo p3 (starEach [e] X.env)).all (fun x => !x.1) && (backToKw p3 (keywordEach [] X.env)).all (fun x => x.1.isSome)
      && decide ([e].length + ([] : List Keyword).length + (if ([] : List Keyword).isEmpty then 0 else 1) < 30)) = true := by rfl)
    (hline : (p2.endLine == p3.line) = true := by rfl) (hs : starEach [e] X.env = (false, eval e X.env) :: starEach [] X.env := by rfl) (hpl : (backTo p3 (starEach [] X.env)).any (·.1) = false := by rfl)
    (hsw : swapsWith (.Call (.Attribute (.Name x p1) "append" p2) [e] [] p3) none pos.line X.env = pure false := by rfl) : DS X T ξ W (.Expr (.Call (.Attribute (.Name x p1) "append" p2) [e] [] p3) pos) (fApp m f) := by
  refine (ps_expr (pe_bm PySem.F.plainAttrs_list PySem.F.slot_list_append PySem.F.type_list_append mt_append (pe_var hN hv hd hcd) (pa_cons he pa_nil hs) hbase hfew hline hs hpl) hsw).to fun E σ H ⟨ρ, Z, F, s, h⟩ => ?_
  have rm := s.rep m
  unfold fApp at h
  cases e0 : ρ.getD m .no with
  | ol ds0 =>
    rw [e0] at rm
    simp only [e0] at h
    obtain ⟨p, vs0, ep, hp0, _⟩ := rm
    refine ⟨.ref p, getD_some ep, .inl ⟨rfl, vs0, .of hp0⟩, ρ, Z, F, s, (Pst.sr h).imp fun d ρ1 H1 Z1 F1 x1 s1 k v rv => ?_⟩
    cases e1 : ρ1.getD m .no with
    | ol ds =>
      simp only [e1] at k
      by_cases c : ds.length < lim
      · rw [if_pos c] at k
        have rm1 := s1.rep m
        rw [e1, ep] at rm1
        obtain ⟨p', vs, ep', hp, rl, hl, _⟩ := rm1
        cases ep'
        obtain ⟨s2, x2⟩ := s1.relist e1 ep (rl.app (RpL.one rv)) (by rw [List.length_append, List.length_singleton]; exact lim_ok c)
        refine ⟨p, vs, v, rfl, rfl, hp, ?_, k σ _ _ _ x2 s2⟩
        rw [rl.length]
        have := lim_ok c
        omega
      · rw [if_neg c] at k; exact k.elim
    | _ => simp only [e1] at k; exact k.elim
  | _ => simp only [e0] at h; exact h.elim
@[simp] def fExt (m : Nat) (f : Fr D) : Fs := fun ρ => match ρ.getD m .no with
  | .ol _ => (f ρ).sr fun d ρ1 => match ρ1.getD m .no, d with
    | .ol ds, .lst es => if ds.length + es.length ≤ lim then .nx (ρ1.set m (.ol (ds ++ es))) else .st
    | _, _ => .st
  | _ => .st
theorem ds_extend (m : Nat) (he : DE X T ξ W e f) (hN : X.N[m]? = some x := by rfl) (hv : Vis X.env.scope x := by first | exact Or.inl rfl | exact Or.inr (Or.inl rfl) | exact Or.inr (Or.inr rfl)) (hd : (x == ("__debug__" : Str)) = false := by decide) (hcd : (x == ("__classdict__" : Str)) = false := by decide)
    (hbase : attributeBase (.Name x p1) "extend" X.env (eval (.Name x p1) X.env) = eval (.Name x p1) X.env := by rfl)
    (hfew : ((backTo p3 (starEach [e] X.env)).all (fun x => !x.1) && (backToKw p3 (keywordEach [] X.env)).all (fun x => x.1.isSome)
      && decide ([e].length + ([] : List Keyword).length + (if ([] : List Keyword).isEmpty then 0 else 1) < 30)) = true := by rfl)
    (hline : (p2.endLine == p3.line) = true := by rfl) (hs : starEach [e] X.env = (false, eval e X.env) :: starEach [] X.env := by rfl) (hpl : (backTo p3 (starEach [] X.env)).any (·.1) = false := by rfl)
    (hsw : swapsWith (.Call (.Attribute (.Name x p1) "extend" p2) [e] [] p3) none pos.line X.env = pure false := by rfl) : DS X T ξ W (.Expr (.Call (.Attribute (.Name x p1) "extend" p2) [e] [] p3) pos) (fExt m f) := by
  refine (ps_expr (pe_bm PySem.F.plainAttrs_list PySem.F.slot_list_extend PySem.F.type_list_extend mt_extend (pe_var hN hv hd hcd) (pa_cons he pa_nil hs) hbase hfew hline hs hpl) hsw).to fun E σ H ⟨ρ, Z, F, s, h⟩ => ?_
  have rm := s.rep m
  unfold fExt at h
  cases e0 : ρ.getD m .no with
  | ol ds0 =>
    rw [e0] at rm
    simp only [e0] at h
    obtain ⟨p, vs0, ep, hp0, _⟩ := rm
    refine ⟨.ref p, getD_some ep, .inl ⟨rfl, vs0, .of hp0⟩, ρ, Z, F, s, (Pst.sr h).imp fun d ρ1 H1 Z1 F1 x1 s1 k v rv => ?_⟩
    cases e1 : ρ1.getD m .no with
    | ol ds =>
      cases d with
      | lst es =>
        simp only [e1] at k
        by_cases c : ds.length + es.length ≤ lim
        · rw [if_pos c] at k
          have rm1 := s1.rep m
          rw [e1, ep] at rm1
          obtain ⟨p', vs, ep', hp, rl, hl, _⟩ := rm1
          cases ep'
          obtain ⟨q, ws, rfl, t, r2, _⟩ := rv
          obtain ⟨s2, x2⟩ := s1.relist e1 ep (rl.app r2) (by rw [List.length_append]; exact lim_ok c)
          refine ⟨p, q, vs, ws, rfl, rfl, hp, t.2, ?_, k σ _ _ _ x2 s2⟩
          rw [rl.length, r2.length]
          exact lim_ok c
        · rw [if_neg c] at k; exact k.elim
      | _ => simp only [e1] at k; exact k.elim
    | _ => simp only [e1] at k; exact k.elim
  | _ => simp only [e0] at h; exact h.elim
/-- xs.pop(i), xs.pop() -/
@[simp] def fPopAt (m : Nat) (f : Fr D) : Fr D := fun ρ => match ρ.getD m .no with
  | .ol _ => (f ρ).bind fun d ρ1 => match ρ1.getD m .no, d with
    | .ol ds, .int i => match ixN ds.length i with
      | some j => match ds[j]? with
        | some y => .ok y (ρ1.set m (.ol (ds.eraseIdx j)))
        | none => .st
      | none => .st
    | _, _ => .st
  | _ => .st
theorem de_popAt (m : Nat) (he : DE X T ξ W e f) (hN : X.N[m]? = some x := by rfl) (hv : Vis X.env.scope x := by first | exact Or.inl rfl | exact Or.inr (Or.inl rfl) | exact Or.inr (Or.inr rfl)) (hd : (x == ("__debug__" : Str)) = false := by decide) (hcd : (x == ("__classdict__" : Str)) = false := by decide)
    (hbase : attributeBase (.Name x p1) "pop" X.env (eval (.Name x p1) X.env) = eval (.Name x p1) X.env := by rfl)
    (hfew : ((backTo p3 (starEach [e] X.env)).all (fun x => !x.1) && (backToKw p3 (keywordEach [] X.env)).all (fun x => x.1.isSome)
      && decide ([e].length + ([] : List Keyword).length + (if ([] : List Keyword).isEmpty then 0 else 1) < 30)) = true := by rfl)
    (hline : (p2.endLine == p3.line) = true := by rfl) (hs : starEach [e] X.env = (false, eval e X.env) :: starEach [] X.env := by rfl) (hpl : (backTo p3 (starEach [] X.env)).any (·.1) = false := by rfl) :
    DE X T ξ W (.Call (.Attribute (.Name x p1) "pop" p2) [e] [] p3) (fPopAt m f) := by
  refine (pe_bm PySem.F.plainAttrs_list PySem.F.slot_list_pop PySem.F.type_list_pop mt_popAt (pe_var hN hv hd hcd) (pa_cons he pa_nil hs) hbase hfew hline hs hpl).to fun σ H Q ⟨ρ, Z, F, s, h⟩ => ?_
  have rm := s.rep m
  unfold fPopAt at h
  cases e0 : ρ.getD m .no with
  | ol ds0 =>
    rw [e0] at rm
    simp only [e0] at h
    obtain ⟨p, vs0, ep, hp0, _⟩ := rm
    refine ⟨.ref p, getD_some ep, .inl ⟨rfl, vs0, .of hp0⟩, ρ, Z, F, s, (Pst.bind h).imp fun d ρ1 H1 Z1 F1 x1 s1 k v rv => ?_⟩
    cases e1 : ρ1.getD m .no with
    | ol ds =>
      cases d with
      | int i =>
        simp only [e1] at k
        cases ej : ixN ds.length i with
        | none => simp only [ej] at k; exact k.elim
        | some j =>
          cases ey : ds[j]? with
          | none => simp only [ej, ey] at k; exact k.elim
          | some y =>
            simp only [ej, ey] at k
            have rm1 := s1.rep m
            rw [e1, ep] at rm1
            obtain ⟨p', vs, ep', hp, rl, hl, _⟩ := rm1
            cases ep'
            cases (show v = _ from rv)
            obtain ⟨h1, h2, h3, h4⟩ := ixN_seq ej
            obtain ⟨u, hu, ru⟩ := rl.get ey
            have hle : (ds.eraseIdx j).length ≤ sizeLine := Nat.le_trans (len_erase ds j) hl
            obtain ⟨s2, x2⟩ := s1.relist e1 ep (rl.erase j) hle
            have nz : ¬ Z1 p := by
              have rm2 := s1.rep m
              rw [e1, ep] at rm2
              obtain ⟨p2, _, e2, _, _, _, ip⟩ := rm2
              cases e2
              exact s1.zf m p ((ip p).mpr rfl)
            have hz := sizeLine_eq
            refine ⟨p, vs, i, j, u, rfl, rfl, hp, by omega, by omega, by rw [rl.length]; exact h1, hu, ?_⟩
            exact k _ Z1 _ x2 s2 u (ru.other (fun b n => upd_ne n) nz)
      | _ => simp only [e1] at k; exact k.elim
    | _ => simp only [e1] at k; exact k.elim
  | _ => simp only [e0] at h; exact h.elim
@[simp] def fPop (m : Nat) : Fr D := fun ρ => match ρ.getD m .no with
  | .ol ds => match ds[ds.length - 1]? with
    | some y => .ok y (ρ.set m (.ol ds.dropLast))
    | none => .st
  | _ => .st
theorem RpL.dropLast {K : Frag} {mg : Str → Option Value} : ∀ {ds : List D} {vs : List V}, RpL K mg H Z ds vs → RpL K mg H Z ds.dropLast vs.dropLast
  | [], _, h => by cases h; rfl
  | [_], _, ⟨_, _, e, _, h⟩ => by cases h; subst e; rfl
  | _ :: d :: ds, _, ⟨v, vs', e, h1, ⟨w, vs2, e2, h2, h3⟩⟩ => by
    subst e
    subst e2
    exact ⟨v, _, rfl, h1, RpL.dropLast ⟨w, vs2, rfl, h2, h3⟩⟩
theorem de_pop (m : Nat) (hN : X.N[m]? = some x := by rfl) (hv : Vis X.env.scope x := by first | exact Or.inl rfl | exact Or.inr (Or.inl rfl) | exact Or.inr (Or.inr rfl)) (hd : (x == ("__debug__" : Str)) = false := by decide) (hcd : (x == ("__classdict__" : Str)) = false := by decide)
    (hbase : attributeBase (.Name x p1) "pop" X.env (eval (.Name x p1) X.env) = eval (.Name x p1) X.env := by rfl) (hline : (p2.endLine == p3.line) = true := by rfl) :
    DE X T ξ W (.Call (.Attribute (.Name x p1) "pop" p2) [] [] p3) (fPop m) := by
  refine (pe_bm0 PySem.F.plainAttrs_list PySem.F.slot_list_pop PySem.F.type_list_pop mt_pop (pe_var hN hv hd hcd) hbase hline).to fun σ H Q ⟨ρ, Z, F, s, h⟩ => ?_
  have rm := s.rep m
  unfold fPop at h
  cases e0 : ρ.getD m .no with
  | ol ds =>
    rw [e0] at rm
    simp only [e0] at h
    cases ey : ds[ds.length - 1]? with
    | none => simp only [ey] at h; exact h.elim
    | some y =>
      simp only [ey] at h
      obtain ⟨p, vs, ep, hp, rl, hl, ip⟩ := rm
      obtain ⟨u, hu, ru⟩ := rl.get ey
      have nz : ¬ Z p := s.zf m p ((ip p).mpr rfl)
      obtain ⟨s2, x2⟩ := s.relist e0 ep rl.dropLast (by rw [List.length_dropLast]; omega)
      refine ⟨.ref p, getD_some ep, .inl ⟨rfl, vs, .of hp⟩, p, vs, u, rfl, rfl, hp, by rw [rl.length]; exact hu, ?_⟩
      exact h _ Z _ x2 s2 u (ru.other (fun b n => upd_ne n) nz)
  | _ => simp only [e0] at h; exact h.elim
end

/-! ### 28. rows of one's own -/
theorem RpM.set {K : Frag} {mg : Str → Option Value} : ∀ {dss : List (List D)} {qs : List Addr} {i : Nat} {q : Addr} {ds : List D} {us : List V}, RpM K mg H Z dss qs → qs.Nodup → (∀ r ∈ qs, ¬ Z r) → qs[i]? = some q → RpL K mg H Z ds us → ds.length ≤ sizeLine → RpM K mg (upd H q (.lst us)) Z (dss.set i ds) qs
  | [], _, i, q, _, _, h, _, _, hq, _, _ => by cases h; simp at hq
  | es :: dss, _, 0, q, ds, us, ⟨r, qs', vs, e, h1, h2, hn, h3⟩, nd, nz, hq, rl, hl => by
    subst e
    simp at hq
    subst hq
    have nd' := List.nodup_cons.mp nd
    have oth : ∀ b, b ≠ r → upd H r (.lst us) b = H b := fun b n => upd_ne n
    refine ⟨r, qs', us, rfl, upd_same, RpL.mono (fun b o e z => (oth b fun q => nz r List.mem_cons_self (q ▸ z)).trans e) (fun _ z => z) ds us rl, hl, ?_⟩
    exact RpM.mono (fun b o e z => (oth b fun q => nz r List.mem_cons_self (q ▸ z)).trans e) (fun _ z => z) (fun c hc => oth c fun q => nd'.1 (q ▸ hc)) h3
  | es :: dss, _, i + 1, q, ds, us, ⟨r, qs', vs, e, h1, h2, hn, h3⟩, nd, nz, hq, rl, hl => by
    subst e
    have hq' : qs'[i]? = some q := by simpa using hq
    have mq : q ∈ qs' := List.mem_of_getElem? hq'
    have nd' := List.nodup_cons.mp nd
    have nr : r ≠ q := fun e => nd'.1 (e ▸ mq)
    have nzq : ¬ Z q := nz q (List.mem_cons_of_mem _ mq)
    refine ⟨r, qs', vs, rfl, (upd_ne nr).trans h1, RpL.mono (fun b o e z => (upd_ne fun q' => nzq (by rw [← q']; exact z)).trans e) (fun _ z => z) es vs h2, hn, ?_⟩
    exact RpM.set h3 nd'.2 (fun c hc => nz c (List.mem_cons_of_mem _ hc)) hq' rl hl
@[simp] def bSubM (m : Nat) (f : Fr D) (n : Nat) : D → Ro → Option Ro := fun d ρ => match ρ.getD m .no with
  | .om _ => match f ρ with
    | .ok (.int i) ρ1 => match ρ1.getD m .no, ρ1.getD n .no with
      | .om dss, .dat (.int k) => (ixN dss.length i).bind fun j => (dss[j]?).bind fun ds => (ixN ds.length k).map fun l => ρ1.set m (.om (dss.set j (ds.set l d)))
      | _, _ => none
    | _ => none
  | _ => none
/-- the row at q of the rows in slot m is written -/
theorem Sta.rerow (s : Sta X.K X.mg T ξ H Z F σ ρ) {m : Nat} {dss : List (List D)} {p q : Addr} {qs : List Addr} {i : Nat} {es : List D} {us : List V} (e : ρ.getD m .no = .om dss) (ep : σ.getD m none = some (.ref p)) (hp : H p = some (.lst (qs.map V.ref))) (hq : qs[i]? = some q) (r : RpL X.K X.mg H Z es us) (hl : es.length ≤ sizeLine) :
    Sta X.K X.mg T ξ (upd H q (.lst us)) Z (fset F m (F m)) σ (ρ.set m (.om (dss.set i es))) ∧ Ext H Z (own F) (upd H q (.lst us)) Z (own (fset F m (F m))) := by
  have rm := s.rep m
  rw [e, ep] at rm
  obtain ⟨p', qs', e1, e2, nd, np, rM, hn, ip⟩ := rm
  cases e1
  obtain rfl : qs' = qs := by
    rw [hp] at e2
    have z : qs.map V.ref = qs'.map V.ref := by
      have := Option.some.inj e2
      exact HO.lst.inj this
    exact ((List.map_inj_right (fun a b h => V.ref.inj h)).mp z).symm
  have mq : q ∈ qs' := List.mem_of_getElem? hq
  have fq : F m q := (ip q).mpr (.inr mq)
  have pq : p ≠ q := fun z => np (z ▸ mq)
  obtain ⟨a, b⟩ := s.rew (P := fun _ => False) (P' := F m) (sl := .om (dss.set i es)) (H' := upd H q (.lst us)) (fun _ z => z.elim) (fun _ _ _ _ z => z) (lt_of_getD e nofun) (fun b o hb n _ => (upd_ne fun z => n (by rw [z]; exact fq)).trans hb) (by
      rw [ep]
      exact ⟨p, qs', rfl, (upd_ne pq).trans hp, nd, np, rM.set nd (fun c hc => s.zf m c ((ip c).mpr (.inr hc))) hq r hl, by rw [List.length_set]; exact hn, ip⟩) fun a q => .inl q
  exact ⟨a, ⟨fun c o hc n => b.keep c o hc fun z => z.elim n id, b.zz, fun c z => (b.oo c z).imp (fun z => z.elim id fun z => z.elim) id, fun c z => (b.zo c z).imp id fun z => z.imp (fun z => z.elim id fun z => z.elim) id⟩⟩
theorem dg_subM (m n : Nat) {x y : Str} {i : Expr} {f : Fr D} {p1 p2 p3 pos : Pos} (hi : DE X T ξ W0 i f) (hN : X.N[m]? = some x := by rfl) (hv : Vis X.env.scope x := by first | exact Or.inl rfl | exact Or.inr (Or.inl rfl) | exact Or.inr (Or.inr rfl)) (hN2 : X.N[n]? = some y := by rfl) (hv2 : Vis X.env.scope y := by first | exact Or.inl rfl | exact Or.inr (Or.inl rfl) | exact Or.inr (Or.inr rfl))
    (hd : (x == ("__debug__" : Str)) = false := by decide) (hcd : (x == ("__classdict__" : Str)) = false := by decide) (hd2 : (y == ("__debug__" : Str)) = false := by decide) (hcd2 : (y == ("__classdict__" : Str)) = false := by decide) (hs : PlainIx i := by intro _ _; rfl)
    (ha : ∀ v, assign (.Subscript (.Subscript (.Name x p1) i p2) (.Name y p3) pos) X.env v = (do
      let ov ← holding [v] (eval (.Subscript (.Name x p1) i p2) X.env)
      let iv ← holding [v, ov] (eval (.Name y p3) X.env)
      standAt pos
      holding [v, ov, iv] (setItem ov iv v)
      release [v, ov, iv] []) := by intro _; rfl) : DG X T ξ [] (.Subscript (.Subscript (.Name x p1) i p2) (.Name y p3) pos) (bSubM m f n) := by
  refine (pg_sub (pe_ix ix_list (pe_var hN hv hd hcd) hi hs) (pe_var hN2 hv2 hd2 hcd2) set_list ha).to fun v σ H Q ⟨ρ, Z, F, d, s, r, ρ', e, k⟩ => ?_
  have rm := s.rep m
  unfold bSubM at e
  cases e0 : ρ.getD m .no with
  | om ds0 =>
    rw [e0] at rm
    simp only [e0] at e
    obtain ⟨p, vs0, ep, _⟩ := rm
    cases eg : f ρ with
    | st => simp only [eg] at e; cases e
    | ex _ _ _ => simp only [eg] at e; cases e
    | ok i ρ1 =>
      cases i with
      | int i =>
        simp only [eg] at e
        cases e1 : ρ1.getD m .no with
        | om dss =>
          cases e2 : ρ1.getD n .no with
          | dat z =>
            cases z with
            | int l =>
              simp only [e1, e2] at e
              cases ej : ixN dss.length i with
              | none => simp only [ej, Option.bind_none] at e; cases e
              | some j =>
                simp only [ej, Option.bind_some] at e
                cases ed : dss[j]? with
                | none => simp only [ed, Option.bind_none] at e; cases e
                | some ds =>
                  simp only [ed, Option.bind_some] at e
                  cases el : ixN ds.length l with
                  | none => rw [el] at e; cases e
                  | some t =>
                    rw [el] at e
                    cases e
                    refine ⟨.ref p, getD_some ep, ρ, Z, F, s, ?_⟩
                    rw [eg]
                    intro H1 Z1 F1 x1 s1 w rw'
                    cases (show w = _ from rw')
                    have rm1 := s1.rep m
                    rw [e1, ep] at rm1
                    obtain ⟨p', qs, ep', hp, nd, np, rM, hn, ip⟩ := rm1
                    cases ep'
                    have rn1 := s1.rep n
                    rw [e2] at rn1
                    obtain ⟨⟨u, eu, ru⟩, _⟩ := rn1
                    cases (show u = _ from ru)
                    obtain ⟨q, vs, hq, hqs, rl, hln⟩ := rM.get ed
                    have rv := Rp.ext x1 s.dz r
                    have hat : L2.atI (qs.map V.ref) i = some (.ref q) := by
                      unfold L2.atI
                      rw [List.length_map, rM.length, ej]
                      simp [List.getElem?_map, hq]
                    obtain ⟨s2, x2⟩ := s1.rerow e1 ep hp hq (rl.set t rv) (by rw [List.length_set]; exact hln)
                    exact ⟨p, _, i, .ref q, rfl, rfl, .of hp, hat, .int l, getD_some eu, q, vs, l, t, rfl, rfl, hqs, by rw [rl.length]; exact el, k _ _ _ _ (.refl _ _) (x1.trans x2) s2⟩
            | _ => simp only [e1, e2] at e; cases e
          | _ => simp only [e1, e2] at e; cases e
        | _ => simp only [e1] at e; cases e
      | _ => simp only [eg] at e; cases e
  | _ => simp only [e0] at e; cases e
/-- rows.append(a new list) -/
@[simp] def rowsOf : Sl → Option (List (List D))
  | .ol [] => some []
  | .om dss => some dss
  | _ => none
@[simp] def fAppM (m : Nat) (f : Fr (List D)) : Fs := fun ρ => match rowsOf (ρ.getD m .no) with
  | some _ => (f ρ).sr fun ds ρ1 => match rowsOf (ρ1.getD m .no) with
    | some dss => if dss.length < lim then .nx (ρ1.set m (.om (dss ++ [ds]))) else .st
    | none => .st
  | none => .st
theorem RpM.app {K : Frag} {mg : Str → Option Value} : ∀ {dss : List (List D)} {qs : List Addr} {ds : List D} {q : Addr} {us : List V}, RpM K mg H Z dss qs → H q = some (.lst us) → RpL K mg H Z ds us → ds.length ≤ sizeLine → RpM K mg H Z (dss ++ [ds]) (qs ++ [q])
  | [], _, _, q, us, h, hq, r, hl => by cases h; exact ⟨q, [], us, rfl, hq, r, hl, rfl⟩
  | _ :: dss, _, _, q, us, ⟨r0, qs', vs, e, h1, h2, hn, h3⟩, hq, r, hl => by
    subst e
    exact ⟨r0, _, vs, rfl, h1, h2, hn, RpM.app h3 hq r hl⟩
theorem RpS.rows {s : Sl} {o : Option V} {P : Z1} {dss : List (List D)} (r : RpS X.K X.mg T ξ H Z s o P) (e : rowsOf s = some dss) :
    ∃ p qs, o = some (.ref p) ∧ H p = some (.lst (qs.map V.ref)) ∧ qs.Nodup ∧ p ∉ qs ∧ RpM X.K X.mg H Z dss qs ∧ dss.length ≤ sizeLine ∧ ∀ a, P a ↔ a = p ∨ a ∈ qs := by
  cases s with
  | ol ds =>
    cases ds with
    | nil =>
      cases e
      obtain ⟨p, vs, e1, e2, rl, hl, ip⟩ := r
      cases (show vs = [] from rl)
      exact ⟨p, [], e1, e2, .nil, by simp, rfl, Nat.zero_le _, fun a => by simp [ip a]⟩
    | cons _ _ => cases e
  | om ess => cases e; exact r
  | _ => cases e
theorem rowsOf_ne {s : Sl} {dss : List (List D)} (e : rowsOf s = some dss) : s ≠ .no := fun z => by rw [z] at e; cases e
theorem ds_appendM (m : Nat) {e : Expr} {f : Fr (List D)} {x : Str} {p1 p2 p3 pos : Pos} (he : DN X T ξ W e f) (hN : X.N[m]? = some x := by rfl) (hv : Vis X.env.scope x := by first | exact Or.inl rfl | exact Or.inr (Or.inl rfl) | exact Or.inr (Or.inr rfl)) (hd : (x == ("__debug__" : Str)) = false := by decide) (hcd : (x == ("__classdict__" : Str)) = false := by decide)
    (hbase : attributeBase (.Name x p1) "append" X.env (eval (.Name x p1) X.env) = eval (.Name x p1) X.env := by rfl)
    (hfew : ((backTo p3 (starEach [e] X.env)).all (fun x => !x.1) && (backToKw p3 (keywordEach [] X.env)).all (fun x => x.1.isSome)
      && decide ([e].length + ([] : List Keyword).length + (if ([] : List Keyword).isEmpty then 0 else 1) < 30)) = true := by rfl)
    (hline : (p2.endLine == p3.line) = true := by rfl) (hs : starEach [e] X.env = (false, eval e X.env) :: starEach [] X.env := by rfl) (hpl : (backTo p3 (starEach [] X.env)).any (·.1) = false := by rfl)
    (hsw : swapsWith (.Call (.Attribute (.Name x p1) "append" p2) [e] [] p3) none pos.line X.env = pure false := by rfl) : DS X T ξ W (.Expr (.Call (.Attribute (.Name x p1) "append" p2) [e] [] p3) pos) (fAppM m f) := by
  refine (ps_expr (pe_bm PySem.F.plainAttrs_list PySem.F.slot_list_append PySem.F.type_list_append mt_append (pe_var hN hv hd hcd) (pa_cons he pa_nil hs) hbase hfew hline hs hpl) hsw).to fun E σ H ⟨ρ, Z, F, s, h⟩ => ?_
  have rm := s.rep m
  unfold fAppM at h
  cases e0 : rowsOf (ρ.getD m .no) with
  | none => simp only [e0] at h; exact h.elim
  | some dss0 =>
    simp only [e0] at h
    obtain ⟨p, qs0, ep, hp0, _⟩ := rm.rows e0
    refine ⟨.ref p, getD_some ep, .inl ⟨rfl, _, .of hp0⟩, ρ, Z, F, s, (Pst.sr h).imp fun ds ρ1 H1 Z1 F1 x1 s1 k q us H2 hq ho hn rl hl => ?_⟩
    cases e1 : rowsOf (ρ1.getD m .no) with
    | none => simp only [e1] at k; exact k.elim
    | some dss =>
      simp only [e1] at k
      by_cases c : dss.length < lim
      · rw [if_pos c] at k
        obtain ⟨p', qs, ep', hp, nd, np, rM, hM, ip⟩ := (s1.rep m).rows e1
        rw [ep] at ep'
        cases ep'
        obtain rfl := upd_of hq ho
        obtain ⟨s2, e2, nz, no⟩ := own_new (o := .lst us) s1 hn
        have fp : F1 m p := (ip p).mpr (.inl rfl)
        have neq : ∀ r, F1 m r → r ≠ q := fun r hr z => by obtain ⟨u, hu⟩ := (s1.rep m).has hr; rw [z, hn] at hu; cases hu
        have hp2 : upd H1 q (.lst us) p = some (.lst (qs.map V.ref)) := (upd_ne (neq p fp)).trans hp
        have nq : q ∉ qs := fun z => neq q ((ip q).mpr (.inr z)) rfl
        have rM2 : RpM X.K X.mg (upd H1 q (.lst us)) Z1 dss qs := rM.mono (fun b o hb z => (upd_ne fun z' => nz (by rw [← z']; exact z)).trans hb) (fun _ z => z) fun r hr => upd_ne (neq r ((ip r).mpr (.inr hr)))
        have rl2 : RpL X.K X.mg (upd H1 q (.lst us)) Z1 ds us := rl.other (fun b n => upd_ne n) nz
        have nzp : ¬ Z1 p := s1.zf m p fp
        have rM3 : RpM X.K X.mg (upd (upd H1 q (.lst us)) p (.lst ((qs ++ [q]).map V.ref))) Z1 (dss ++ [ds]) (qs ++ [q]) := by
          refine RpM.mono (fun b o hb z => (upd_ne fun z' => nzp (by rw [← z']; exact z)).trans hb) (fun _ z => z) (fun r hr => ?_) (rM2.app upd_same rl2 hl)
          refine upd_ne fun z => ?_
          rcases List.mem_append.mp hr with hr | hr
          · exact np (z ▸ hr)
          · simp at hr
            exact neq p fp (z ▸ hr)
        obtain ⟨s3, x3⟩ := s2.rew (P := fun a => a = q) (P' := fun a => a = p ∨ a ∈ qs ++ [q]) (sl := .om (dss ++ [ds])) (m := m) (H' := upd (upd H1 q (.lst us)) p (.lst ((qs ++ [q]).map V.ref)))
          (fun a z => by subst z; exact ⟨no, nz⟩) (fun b o u hb z => by subst z; rw [upd_same] at hb; cases hb) (lt_of_getD rfl (rowsOf_ne e1)) (fun b o hb n _ => (upd_ne fun z => n (by rw [z]; exact fp)).trans hb) (by
            rw [ep]
            refine ⟨p, qs ++ [q], rfl, upd_same, ?_, ?_, rM3, ?_, fun _ => Iff.rfl⟩
            · exact List.nodup_append.mpr ⟨nd, by simp, fun a ha b hb => by simp at hb; subst hb; exact fun z => nq (z ▸ ha)⟩
            · intro z
              rcases List.mem_append.mp z with z | z
              · exact np z
              · simp at z
                exact neq p fp z
            · rw [List.length_append, List.length_singleton]; exact lim_ok c) (fun a z => by
            rcases z with z | z
            · exact .inl (z ▸ fp)
            · rcases List.mem_append.mp z with z | z
              · exact .inl ((ip a).mpr (.inr z))
              · simp at z
                exact .inr z)
        refine ⟨p, _, .ref q, rfl, rfl, hp2, ?_, ?_⟩
        · rw [List.length_map, rM.length]
          have := lim_ok c
          omega
        · have := k σ _ Z1 _ (e2.trans x3) s3
          rw [List.map_append] at this
          exact this
      · rw [if_neg c] at k; exact k.elim
end
end Dt
namespace Dt
open PySem PySem.Spec PyProof.Rows L2
section
variable {X : Cx} {T : Tab} {ξ : Xi} {W : WX} {σ σ' : L2.St} {ρ : Ro} {H H' : Hp} {Z Z' : Z1} {F : F1}

/-! ### 29. a comprehension of new rows -/
def lmGo (vs : List Nat) (b : D → Ro → Option Ro) (tt : Fr Bool) (te : Fr (List D)) : List D → List (List D) → Ro → Option (List (List D) × Ro)
  | [], acc, ρ => some (acc, ρ)
  | d :: ds, acc, ρ => match b d ρ with
    | none => none
    | some ρ2 => match tt ρ2 with
      | .ok true ρ3 => match te ρ3 with
        | .ok y ρ4 => lmGo vs b tt te ds (acc ++ [y]) (wipeR ρ4 vs)
        | _ => none
      | .ok false ρ3 => lmGo vs b tt te ds acc (wipeR ρ3 vs)
      | _ => none
@[simp] def fLm (vs : List Nat) (src : Fr (List D)) (b : D → Ro → Option Ro) (tt : Fr Bool) (te : Fr (List D)) : Fr Sl := fun ρ => (src ρ).bind fun ds ρ1 => match lmGo vs b tt te ds [] (wipeR ρ1 vs) with
  | some (ys, ρ2) => .ok (.om ys) (restR ρ1 ρ2 vs)
  | none => .st
/-- ahead of turn i: the rows at qs are nobody's -/
structure LmI (X : Cx) (T : Tab) (ξ : Xi) (σ : L2.St) (vs : List Nat) (b : D → Ro → Option Ro) (tt : Fr Bool) (te : Fr (List D)) (ds : List D) (ys : List (List D)) (ρe : Ro) (n : Nat) (H1 : Hp) (Za : Addr → Prop) (Oa : Addr → Prop) (p : Addr) (i : Nat) (H : Hp) : Prop where
  ex : ∃ ρ Z F acc qs, Ext H1 Za Oa H Z (fun a => own F a ∨ (a = p ∨ a ∈ qs)) ∧ Sta X.K X.mg T ξ H Z F (wipe σ vs) ρ ∧ H p = some (.lst (qs.map V.ref)) ∧ RpM X.K X.mg H Z acc qs ∧ qs.Nodup ∧ p ∉ qs ∧ (∀ a, a = p ∨ a ∈ qs → ¬ Z a ∧ ¬ own F a) ∧ acc.length ≤ i ∧ lmGo vs b tt te (ds.drop i) acc ρ = some (ys, ρe) ∧ ρ.length = n
theorem RpM.ext {H2 : Hp} {Z2 O O' : Z1} {dss : List (List D)} {qs : List Addr} (r : RpM X.K X.mg H Z dss qs) (e : Ext H Z O H2 Z2 O') (dz : ∀ a, Z a → ¬ O a) (nq : ∀ q ∈ qs, ¬ O q) : RpM X.K X.mg H2 Z2 dss qs :=
  r.mono (fun b o hb z => e.keep b o hb (dz b z)) e.zz fun q hq => by
    obtain ⟨us, hu⟩ := r.mem q hq
    rw [hu]
    exact e.keep q _ hu (nq q hq)
theorem Sta.keepP {O O' : Z1} {H2 : Hp} {Z2 : Z1} {F2 : F1} (e : Ext H Z (own F) H2 Z2 (own F2)) {a : Addr} {u : HO} (h : H a = some u) (n : ¬ Z a ∧ ¬ own F a) : ¬ Z2 a ∧ ¬ own F2 a :=
  ⟨fun z => (e.zo a z).elim n.1 fun z => z.elim n.2 fun z => (by rw [h] at z; cases z), fun z => (e.oo a z).elim n.2 fun z => (by rw [h] at z; cases z)⟩
theorem Ext.wide {O O' P : Z1} (e : Ext H Z O H' Z' O') : Ext H Z (fun a => O a ∨ P a) H' Z' (fun a => O' a ∨ P a) where
  keep := fun b o h n => e.keep b o h fun q => n (.inl q)
  zz := e.zz
  oo := fun a h => h.elim (fun q => (e.oo a q).elim (fun x => .inl (.inl x)) .inr) fun q => .inl (.inr q)
  zo := fun a h => (e.zo a h).elim .inl fun q => q.elim (fun x => .inr (.inl (.inl x))) fun x => .inr (.inr x)
theorem lm_imp {vs : List Nat} {f : Fr (List D)} {b : D → Ro → Option Ro} {tt : Fr Bool} {te : Fr (List D)} {Q : VK} (h : tDV X T ξ W (fLm vs f b tt te) σ H Q) : tLc (tDI X T ξ W f) (tDG X T ξ vs b) (tDT X T ξ W0 tt) (tDN X T ξ W0 te) vs σ H Q := by
  obtain ⟨ρ, Z, F, s, h⟩ := h
  have h' : PstV X T ξ W σ ((f ρ).bind fun ds ρ1 => match lmGo vs b tt te ds [] (wipeR ρ1 vs) with
    | some (ys, ρ2) => .ok [.om ys] (restR ρ1 ρ2 vs)
    | none => .st) (fun vs H' => ∀ v, vs = [v] → Q v H') H Z F := by
    unfold fOne fLm at h
    cases e : f ρ with
    | st => rw [e] at h; exact h
    | ex n d ρ' => rw [e] at h; exact h
    | ok ds ρ1 =>
      rw [e] at h
      simp only [Res.bind] at h ⊢
      cases eg : lmGo vs b tt te ds [] (wipeR ρ1 vs) with
      | none => simp only [eg] at h ⊢; exact h
      | some r => simp only [eg] at h ⊢; exact h
  refine ⟨ρ, Z, F, s, (PstV.bind h').imp fun ds ρ1 H1 Z1 F1 e1 s1 q1 hlen J wk p hp => ?_⟩
  cases hgo : lmGo vs b tt te ds [] (wipeR ρ1 vs) with
  | none => simp only [hgo] at q1; exact q1.elim
  | some r =>
    obtain ⟨ys, ρe⟩ := r
    simp only [hgo] at q1
    have nz1 : ¬ Z1 p := fun z => by obtain ⟨o, e⟩ := s1.zh p z; rw [hp] at e; cases e
    have no1 : ¬ own F1 p := fun z => by obtain ⟨o, e⟩ := s1.has z; rw [hp] at e; cases e
    refine ⟨fun i m H => m = ds.length - i ∧ i ≤ ds.length ∧ LmI X T ξ σ vs b tt te ds ys ρe ρ1.length H1 Z1 (fun a => own F1 a) p i H, ⟨ds.length, by simp, Nat.zero_le _, ?_⟩, ?_⟩
    · refine ⟨wipeR ρ1 vs, Z1, wipeF F1 vs, [], [], ?_, ?_, upd_same, rfl, .nil, by simp, fun a z => ?_, Nat.le_refl _, by simpa using hgo, wipeR_length _ _⟩
      · exact ⟨fun b o hb _ => by rw [upd_ne (ne_of_none hb hp)]; exact hb, fun _ z => z, fun a z => z.elim (fun q => .inl (own_wipeF q)) fun q => .inr (by simp at q; rw [q]; exact hp), fun _ z => .inl z⟩
      · exact (s1.wiped vs).other (fun b n => upd_ne n) nz1 (fun z => no1 (own_wipeF z)) (fun o u e => by rw [hp] at e; cases e)
      · simp at z
        subst z
        exact ⟨nz1, fun z => no1 (own_wipeF z)⟩
    · rintro i m H2 ⟨rfl, hil, ⟨ρ2, Z2, F2, acc, qs, e2, s2, hp2, r2, nd2, np2, nb2, hal, hgo2, hln2⟩⟩
      have kp2 : Kp H1 Z1 H2 := e2.kp s1.dz
      by_cases hlt : i < ds.length
      · refine .inr ⟨wk.go i ds[i] H2 kp2 (List.getElem?_eq_getElem hlt), fun H' => i + 1 ≤ ds.length ∧ LmI X T ξ σ vs b tt te ds ys ρe ρ1.length H1 Z1 (fun a => own F1 a) p (i + 1) H', fun H' ⟨g1, g2⟩ => ⟨_, by omega, rfl, g1, g2⟩, fun x H3 y3 => ?_⟩
        obtain ⟨Z3, e3, zh3, rx⟩ := wk.yld i ds[i] H2 x H3 Z2 kp2 e2.zz s2.zh (List.getElem?_eq_getElem hlt) y3
        have s3 := s2.grow e3 zh3
        have e3' : Ext H2 Z2 (own F2) H3 Z3 (own F2) := (e3.grow (O := own F2)).sub fun _ z => .inl z
        have has2 : ∀ a, a = p ∨ a ∈ qs → ∃ u, H2 a = some u := fun a z => z.elim (fun z => ⟨.lst (qs.map V.ref), by rw [z]; exact hp2⟩) fun z => let ⟨us, hu⟩ := r2.mem a z; ⟨_, hu⟩
        have hd : ds.drop i = ds[i] :: ds.drop (i + 1) := List.drop_eq_getElem_cons hlt
        rw [hd] at hgo2
        unfold lmGo at hgo2
        cases hb : b ds[i] ρ2 with
        | none => simp only [hb] at hgo2; cases hgo2
        | some ρ3 =>
          simp only [hb] at hgo2
          refine ⟨ρ2, Z3, F2, ds[i], s3, rx, ρ3, hb, fun σ4 H4 Z4 F4 o4 e4 s4 => ?_⟩
          have hw4 : wipe σ4 vs = wipe σ vs := (wipe_ext o4).trans (wipe_wipe vs σ)
          have e24 := e3'.trans e4
          refine ⟨hw4, ρ3, Z4, F4, s4, ?_⟩
          cases htt : tt ρ3 with
          | ex _ _ _ => simp only [htt] at hgo2; cases hgo2
          | st => simp only [htt] at hgo2; cases hgo2
          | ok c ρ4 =>
            simp only [htt] at hgo2
            intro H5 Z5 F5 e5 s5
            have e25 := e24.trans e5
            have nb5 : ∀ a, a = p ∨ a ∈ qs → ¬ Z5 a ∧ ¬ own F5 a := fun a z => let ⟨u, hu⟩ := has2 a z; Sta.keepP (O := own F2) (O' := own F2) e25 hu (nb2 a z)
            have r5 : RpM X.K X.mg H5 Z5 acc qs := r2.ext e25 s2.dz fun q hq => (nb2 q (.inr hq)).2
            have hp5 : H5 p = some (.lst (qs.map V.ref)) := e25.keep p _ hp2 (nb2 p (.inl rfl)).2
            cases c with
            | false =>
              simp only at hgo2
              show i + 1 ≤ ds.length ∧ _
              have s5' : Sta X.K X.mg T ξ H5 Z5 (wipeF F5 vs) (wipe σ vs) (wipeR ρ4 vs) := by
                rw [← hw4]
                exact s5.wiped vs
              refine ⟨hlt, ⟨wipeR ρ4 vs, Z5, wipeF F5 vs, acc, qs, (e2.trans e25.wide).sub fun a z => z.imp own_wipeF id, s5', hp5, r5, nd2, np2, fun a z => ⟨(nb5 a z).1, fun q => (nb5 a z).2 (own_wipeF q)⟩, by omega, hgo2, ?_⟩⟩
              rw [wipeR_length, s5.ln, o4.1, wipe_length, s1.ln]
            | true =>
              simp only at hgo2
              refine ⟨ρ4, Z5, F5, s5, ?_⟩
              cases hte : te ρ4 with
              | ex _ _ _ => simp only [hte] at hgo2; cases hgo2
              | st => simp only [hte] at hgo2; cases hgo2
              | ok y ρ5 =>
                simp only [hte] at hgo2
                intro H6 Z6 F6 e6 s6 q us H7 hq7 ho7 hn6 rl hl
                obtain rfl := upd_of hq7 ho7
                have e26 := e25.trans e6
                have nb6 : ∀ a, a = p ∨ a ∈ qs → ¬ Z6 a ∧ ¬ own F6 a := fun a z => let ⟨u, hu⟩ := has2 a z; Sta.keepP (O := own F2) (O' := own F2) e26 hu (nb2 a z)
                have has6 : ∀ a, a = p ∨ a ∈ qs → ∃ u, H6 a = some u := fun a z => let ⟨u, hu⟩ := has2 a z; ⟨u, e26.keep a u hu (nb2 a z).2⟩
                have neq : ∀ a, a = p ∨ a ∈ qs → a ≠ q := fun a z e => by obtain ⟨u, hu⟩ := has6 a z; rw [e, hn6] at hu; cases hu
                have hp6 : H6 p = some (.lst (qs.map V.ref)) := e26.keep p _ hp2 (nb2 p (.inl rfl)).2
                obtain ⟨s7, e67, nzq, noq⟩ := own_new (o := .lst us) s6 hn6
                have hp7 : upd H6 q (.lst us) p = some (.lst (qs.map V.ref)) := (upd_ne (neq p (.inl rfl))).trans hp6
                have r6 : RpM X.K X.mg H6 Z6 acc qs := r2.ext e26 s2.dz fun q hq => (nb2 q (.inr hq)).2
                have nzp := (nb6 p (.inl rfl)).1
                have nop := (nb6 p (.inl rfl)).2
                have oth7 : ∀ b, b ≠ q → upd H6 q (.lst us) b = H6 b := fun b n => upd_ne n
                have r7 : RpM X.K X.mg (upd H6 q (.lst us)) Z6 (acc ++ [y]) (qs ++ [q]) :=
                  (r6.mono (fun b o hb z => (oth7 b fun z' => nzq (by rw [← z']; exact z)).trans hb) (fun _ z => z) fun r hr => oth7 r (neq r (.inr hr))).app upd_same (rl.other oth7 nzq) hl
                have npq : p ∉ qs ++ [q] := fun z => by
                  rcases List.mem_append.mp z with z | z
                  · exact np2 z
                  · simp at z
                    exact neq p (.inl rfl) z
                refine ⟨qs.map V.ref, hp7, by rw [List.length_map, r6.length]; omega, ?_⟩
                show i + 1 ≤ ds.length ∧ _
                have oth8 : ∀ b, b ≠ p → upd (upd H6 q (.lst us)) p (.lst (qs.map V.ref ++ [.ref q])) b = upd H6 q (.lst us) b := fun b n => upd_ne n
                have s6' : Sta X.K X.mg T ξ (upd H6 q (.lst us)) Z6 (wipeF F6 vs) (wipe σ vs) (wipeR ρ5 vs) := by
                  rw [← hw4]
                  exact s7.wiped vs
                refine ⟨hlt, ⟨wipeR ρ5 vs, Z6, wipeF F6 vs, acc ++ [y], qs ++ [q], ?_, s6'.other oth8 nzp (fun z => nop (own_wipeF z)) (fun o u e => by rw [hp7] at e; cases e), ?_, ?_, ?_, npq, fun a z => ?_, by rw [List.length_append, List.length_singleton]; omega, hgo2, ?_⟩⟩
                · have x1 : Ext H1 Z1 (fun a => own F1 a) H6 Z6 (fun a => own F6 a ∨ (a = p ∨ a ∈ qs)) := e2.trans e26.wide
                  refine ⟨fun b o hb n => ?_, x1.zz, fun a z => ?_, x1.zo⟩
                  · have h6 := x1.keep b o hb n
                    have n6 : ¬ (own F6 b ∨ (b = p ∨ b ∈ qs)) := fun z => (x1.oo b z).elim n fun z => by rw [hb] at z; cases z
                    rw [oth8 b fun z => n6 (.inr (.inl z)), oth7 b (fun z => by rw [z, hn6] at h6; cases h6)]
                    exact h6
                  · rcases z with z | z | z
                    · exact x1.oo a (.inl (own_wipeF z))
                    · exact x1.oo a (.inr (.inl z))
                    · rcases List.mem_append.mp z with z | z
                      · exact x1.oo a (.inr (.inr z))
                      · simp at z
                        subst z
                        exact x1.free hn6
                · rw [upd_same, List.map_append]
                  rfl
                · refine r7.mono (fun b o hb z => (oth8 b fun z' => nzp (by rw [← z']; exact z)).trans hb) (fun _ z => z) fun r hr => oth8 r fun z => npq (z ▸ hr)
                · exact List.nodup_append.mpr ⟨nd2, by simp, fun a ha b hb => by simp at hb; subst hb; exact neq a (.inr ha)⟩
                · rcases z with z | z
                  · exact ⟨(nb6 a (.inl z)).1, fun q => (nb6 a (.inl z)).2 (own_wipeF q)⟩
                  · rcases List.mem_append.mp z with z | z
                    · exact ⟨(nb6 a (.inr z)).1, fun q => (nb6 a (.inr z)).2 (own_wipeF q)⟩
                    · simp at z
                      subst z
                      exact ⟨nzq, fun q => noq (own_wipeF q)⟩
                · rw [wipeR_length, s6.ln, o4.1, wipe_length, s1.ln]
      · have hie : i = ds.length := by omega
        subst hie
        rw [List.drop_length] at hgo2
        simp only [lmGo, Option.some.injEq, Prod.mk.injEq] at hgo2
        obtain ⟨rfl, rfl⟩ := hgo2
        refine .inl ⟨wk.stop _ H2 kp2 (Nat.le_refl _), ?_⟩
        refine q1 [.ref p] H2 Z2 (wipeF F2 vs) [fun a => a = p ∨ a ∈ qs] (e2.sub fun a z => z.imp own_wipeF pend_one.mp) (s1.rest kp2 e2.zz s2 hln2.symm) (RpSs.one ⟨p, qs, rfl, hp2, nd2, np2, r2, Nat.le_trans hal hlen, fun _ => Iff.rfl⟩) (fun a z => ?_) _ rfl
        have z := pend_one.mp z
        exact ⟨fun q => (nb2 a z).2 (own_wipeF q), (nb2 a z).1⟩
theorem dv_lcM {elt tg iter : Expr} {ifs : List Expr} {scope : Scope} {own' : List (Str × Nat)} {pos : Pos} {f : Fr (List D)} {b : D → Ro → Option Ro} {tt : Fr Bool} {te : Fr (List D)} (hc : X.calm = true) (hN : X.N.Nodup) (hi : DI X T ξ W tg iter f) (ok : BlkOk X.N X.env.scope scope own')
    (hg : ∀ (s : Shared) (H : Hp) (C : Addr) (cl : List (Str × Addr)) (fp : List Addr), DG (X.blk s H scope (compEnvC scope cl C X.env) fp) T ξ (own'.map (·.2)) tg b)
    (ht : ∀ (s : Shared) (H : Hp) (C : Addr) (cl : List (Str × Addr)) (fp : List Addr), PTs (X.blk s H scope (compEnvC scope cl C X.env) fp) ifs (tDT (X.blk s H scope (compEnvC scope cl C X.env) fp) T ξ W0 tt))
    (he : ∀ (s : Shared) (H : Hp) (C : Addr) (cl : List (Str × Addr)) (fp : List Addr), DN (X.blk s H scope (compEnvC scope cl C X.env) fp) T ξ W0 elt te) (hs : ∀ x, foldedSetIterable iter X.env x = pure x := by intro _; rfl) :
    DV X T ξ W (.ListComp elt [⟨tg, iter, ifs, 0⟩] scope pos) (fLm (own'.map (·.2)) f b tt te) := by
  generalize hvs : own'.map (fun q : Str × Nat => q.2) = vs at *
  have hg' : ∀ (s : Shared) (H : Hp) (C : Addr) (cl : List (Str × Addr)) (fp : List Addr), PG (X.blk s H scope (compEnvC scope cl C X.env) fp) tg (tDG X T ξ vs b) := hg
  have core := pe_lc (pos := pos) (wi := tDI X T ξ W f) (g := tDG X T ξ vs b) (tt := tDT X T ξ W0 tt) (te := tDN X T ξ W0 te) hc hN hi ok hg' ht he hs
  rw [show own'.map (·.2) = vs from hvs] at core
  exact core.to fun σ H Q h => lm_imp h
end
end Dt
namespace Dt
open PySem PySem.Spec PyProof.Rows L2

/-! ### 30. what a def promises -/
/-- a def's end: all of its arguments data -/
inductive Rd where
  | rt (s : Sl)
  | ex (n : Nat) (d : D)
  | st
/-- the state of the draws: cells, at, left -/
abbrev Dr := List Int × Int × List Int
/-- .. where the first one is the draws' state -/
inductive Rm where
  | rt (s : Sl) (m : Dr)
  | ex (n : Nat) (d : D) (m : Dr)
  | st
@[simp] def Sl.ofDr (p : Addr) (m : Dr) : Sl := .dr p m.1 m.2.1 m.2.2
abbrev Non : Z1 := fun _ => False
section
variable (K : Frag) (mg : Str → Option Value) (T : Tab)
def PfD (r : Rd) (H : Hp) (Z : Z1) (Q : VK) (E : XK) : Prop := match r with
  | .rt s => ∀ v H' Z' P, Ext H Z Non H' Z' P → (∀ a, Z' a → ∃ o, H' a = some o) → RpS K mg T none H' Z' s (some v) P → (∀ a, P a → ¬ Z' a) → Q v H'
  | .ex n d => ∀ v H' Z' da, Ext H Z Non H' Z' Non → (∀ a, Z' a → ∃ o, H' a = some o) → Rp K mg H' Z' d v → H' da = some (.xd [(T.fld n, v)]) → Z' da → E (.ref (T.cls n)) (some da) H'
  | .st => False
def spD (φ : List D → Rd) (n : Nat) : Sp := fun vs H Q E => ∃ ds Z, RpL K mg H Z ds vs ∧ (∀ a, Z a → ∃ o, H a = some o) ∧ ds.length = n ∧ PfD K mg T (φ ds) H Z Q E
def PfM (p : Addr) (r : Rm) (H : Hp) (Z O : Z1) (Q : VK) (E : XK) : Prop := match r with
  | .rt s m => ∀ v H' Z' P P', Ext H Z O H' Z' (fun a => P a ∨ P' a) → (∀ a, Z' a → ∃ o, H' a = some o) → RpS K mg T none H' Z' s (some v) P → RpS K mg T none H' Z' (.ofDr p m) (some (.ref p)) P' → (∀ a, P a → ¬ P' a) → (∀ a, P a ∨ P' a → ¬ Z' a) → Q v H'
  | .ex n d m => ∀ v H' Z' P' da, Ext H Z O H' Z' P' → (∀ a, Z' a → ∃ o, H' a = some o) → RpS K mg T none H' Z' (.ofDr p m) (some (.ref p)) P' → (∀ a, P' a → ¬ Z' a) → Rp K mg H' Z' d v → H' da = some (.xd [(T.fld n, v)]) → Z' da → E (.ref (T.cls n)) (some da) H'
  | .st => False
def spM (φ : Addr → Dr → List D → Rm) (n : Nat) : Sp := fun vs H Q E => ∃ p us m ds Z O, vs = .ref p :: us ∧ RpS K mg T none H Z (.ofDr p m) (some (.ref p)) O ∧ (∀ a, O a → ¬ Z a) ∧ RpL K mg H Z ds us ∧ (∀ a, Z a → ∃ o, H a = some o) ∧ ds.length + 1 = n ∧ PfM K mg T p (φ p m ds) H Z O Q E
end
/-- the slots at the entry -/
@[simp] def entD (N : Nat) (ds : List D) : Ro := ds.map Sl.dat ++ List.replicate (N - ds.length) .no
@[simp] def entM (N : Nat) (p : Addr) (m : Dr) (ds : List D) : Ro := Sl.ofDr p m :: (ds.map Sl.dat ++ List.replicate (N - (ds.length + 1)) .no)
def runD (N : Nat) (f : Fs) : List D → Rd := fun ds => match f (entD N ds) with
  | .rt s _ => .rt s
  | .nx _ => .rt (.dat .non)
  | .ex n d _ => .ex n d
  | _ => .st
@[simp] def drOf (p : Addr) : Sl → Option Dr
  | .dr q a b c => if q = p then some (a, b, c) else none
  | _ => none
def runM (N : Nat) (f : Fs) : Addr → Dr → List D → Rm := fun p m ds => match f (entM N p m ds) with
  | .rt s ρ' => match drOf p (ρ'.getD 0 .no) with
    | some m' => .rt s m'
    | none => .st
  | .nx ρ' => match drOf p (ρ'.getD 0 .no) with
    | some m' => .rt (.dat .non) m'
    | none => .st
  | .ex n d ρ' => match drOf p (ρ'.getD 0 .no) with
    | some m' => .ex n d m'
    | none => .st
  | _ => .st
section
variable {X : Cx} {T : Tab} {ξ : Xi} {W : WX} {σ σ' : L2.St} {ρ : Ro} {H H' : Hp} {Z Z' : Z1} {F : F1}
theorem start_getD {N : List Str} {vs : List V} {i : Nat} : (L2.start N vs).getD i none = vs[i]? := by
  unfold L2.start
  rw [List.getD_eq_getElem?_getD]
  by_cases h : i < vs.length
  · rw [List.getElem?_append_left (by simpa using h), List.getElem?_map, List.getElem?_eq_getElem h]
    rfl
  · rw [List.getElem?_append_right (by simpa using h), List.getElem?_replicate, List.getElem?_eq_none (by omega)]
    split <;> rfl
theorem entD_getD {N : Nat} {ds : List D} {i : Nat} : (entD N ds).getD i .no = match ds[i]? with | some d => .dat d | none => .no := by
  unfold entD
  rw [List.getD_eq_getElem?_getD]
  by_cases h : i < ds.length
  · rw [List.getElem?_append_left (by simpa using h), List.getElem?_map, List.getElem?_eq_getElem h]
    rfl
  · rw [List.getElem?_append_right (by simpa using h), List.getElem?_replicate, List.getElem?_eq_none (show ds.length ≤ i by omega)]
    split <;> rfl
theorem sta_entD {N : List Str} {ds : List D} {vs : List V} (r : RpL X.K X.mg H Z ds vs) (zh : ∀ a, Z a → ∃ o, H a = some o) (hn : ds.length ≤ N.length) : Sta X.K X.mg T ξ H Z (fun _ => Non) (L2.start N vs) (entD N.length ds) where
  rep := fun i => by
    rw [entD_getD, start_getD]
    cases e : ds[i]? with
    | none => exact fun _ z => z
    | some d =>
      obtain ⟨v, hv, rv⟩ := r.get e
      exact ⟨⟨v, hv, rv⟩, fun _ z => z⟩
  dj := fun _ _ _ _ h _ => h
  ln := by
    unfold entD L2.start
    simp [r.length]
  zf := fun _ _ h _ => h
  zh := zh
theorem own_non {a : Addr} : ¬ own (fun _ => Non) a := fun ⟨_, h⟩ => h
theorem Ext.non {O' : Z1} (e : Ext H Z (own fun _ => Non) H' Z' O') : Ext H Z Non H' Z' O' := ⟨fun b o h n => e.keep b o h own_non, e.zz, fun a h => (e.oo a h).imp (fun z => own_non z) id, fun a h => (e.zo a h).imp id fun z => z.imp (fun z => own_non z) id⟩
/-- the body keeps the promise -/
theorem body_D {N : List Str} {body : List Stmt} {f : Fs} {n : Nat} {Q : VK} {E : XK} {vs : List V} (hn : n ≤ N.length) (hs : spD X.K X.mg T (runD N.length f) n vs H Q E) : tDS X T none (fun cls d _ H => E cls d H) f { nx := fun _ H' => Q .non H', rt := Q } (L2.start N vs) H := by
  obtain ⟨ds, Z, r, zh, hl, h⟩ := hs
  refine ⟨entD N.length ds, Z, _, sta_entD r zh (by omega), ?_⟩
  unfold runD at h
  cases e : f (entD N.length ds) with
  | nx ρ' =>
    rw [e] at h
    exact fun σ' H' Z' F' x s' => h .non H' Z' Non (x.non.sub fun _ z => z.elim) s'.zh ⟨⟨.non, rfl, rfl⟩, fun _ z => z⟩ fun _ z => z.elim
  | bk ρ' => rw [e] at h; exact h.elim
  | ct ρ' => rw [e] at h; exact h.elim
  | rt sl ρ' =>
    rw [e] at h
    exact fun v σ' H' Z' F' P x s' rs np => h v H' Z' P (x.non.sub fun _ z => .inr z) s'.zh rs fun a q => (np a q).2
  | ex k d ρ' =>
    rw [e] at h
    exact fun v σ' H' Z' F' da x s' rv hd hz => h v H' Z' da (x.non.sub fun _ z => z.elim) s'.zh rv hd hz
  | st => rw [e] at h; exact h.elim

end

/-! ### 29b. a def's promise, where no guard is up -/
structure FnG (P : Program) (w : World) (K : Frag) (mg : Str → Option Value) (base : Heap) (k : Nat) (f : Addr) (fd : FuncData) (ps : List Str) (sp : Sp) : Prop where
  len : ∀ vs H Q E, sp vs H Q E → vs.length = ps.length
  run : ∀ (A : Around) (outer : List Env) (s : Shared) (H : Hp) (as : Args) (us : List Value) (vs : List V) (Q : VK) (E : XK), Room k A → A.guards = some [] → Env0 P w K mg base A outer s H → BindsTo s fd as (ps.zip us) → Vals vs us → sp vs H Q E →
    codeAny (model P w) A (.call (.ref f) as) (CR (L2.CX P w) outer P w H s Q E) s
section
variable {P : Program} {w : World} {K : Frag} {mg : Str → Option Value} {base : Heap}
theorem FnG.up {j k : Nat} {f : Addr} {fd : FuncData} {ps : List Str} {sp : Sp} (F : FnG P w K mg base j f fd ps sp) (h : j ≤ k) : FnG P w K mg base k f fd ps sp :=
  ⟨F.len, fun A outer s H as us vs Q E hr => F.run A outer s H as us vs Q E (hr.mono h)⟩
/-- a def of the text, by its body -/
theorem fnG_of {k : Nat} {x qual : Str} {st : Stmt} {f : Addr} {fd : FuncData} {N ps : List Str} {sp : Sp} (Fu : Fun K x qual st f fd) (S : FnScope N ps (defScope st)) (len : ∀ vs H Q E, sp vs H Q E → vs.length = ps.length)
    (hb : ∀ (cdv : Value) (A : Around) (outer : List Env) (s : Shared) (H : Hp) (vs : List V) (Q : VK) (E : XK), Room k (A.deeper (envOfC qual (defScope st) s.heap.objs.size f cdv)) → A.guards = some [] → sp vs H Q E →
      ∃ t, PSs (cxOf (L2.CX P w) P w K mg base N qual (defScope st) f cdv A outer s H E) (defBody st) t ∧ t { nx := fun _ H' => Q .non H', rt := Q } (L2.start N vs) H) : FnG P w K mg base (k + 1) f fd ps sp := by
  obtain ⟨oc, od, kV, doc, pm, an, cdv, ct, osl, rfl, kl, kc⟩ := Fu.ex
  refine ⟨len, fun A outer s H as us vs Q E rm gu ev bi rel prom => ?_⟩
  have lv := len _ _ _ _ prom
  have inK : K.In s.heap := ev.mod.kin.keeps fun b o e => (ev.bs b o e).1
  have noL : s.heap.NoLimit := ev.mod.nolimit.keeps fun b o e => (ev.bs b o e).1
  have kinds : ∀ y ∈ ps.zip us, (defScope st).names.lookup y.1 = some .local ∨ ((defScope st).names.lookup y.1 = some .cell ∧ ((cellsFrom (s.heap.objs.size + 1) (defScope st).names []).lookup y.1).isSome = true) := fun y hy =>
    (S.par y.1 (List.of_mem_zip hy).1).imp id fun q => ⟨q, PySem.W.cellsFrom_some _ _ _ (.inl q)⟩
  refine codeAny_call_function rm.depth (inK _ _ kl) rfl S.co S.gen rfl (PySem.W.codeRec_of inK kc) (bi _ _ _ _ (wpAny_newFunctionEnv_cells S.kind kinds fun env he s1 x => ?_))
  subst he
  refine ⟨noL.keeps x.toInCall.keep, codeAny_func ?_⟩
  obtain ⟨t, ht, q⟩ := hb cdv A outer s H vs Q E (rm.deeper _) gu prom
  have I : Inv (cxOf (L2.CX P w) P w K mg base N qual (defScope st) f cdv A outer s H E) [] (L2.start N vs) H s1 := inv_start S rm.hd ev lv rel x
  refine wpAny_mono (ht.run [] s1 (L2.start N vs) H _ I q) (fun fl s' z => ?_) fun _ _ z => z
  cases fl with
  | ret u =>
    obtain ⟨v, σ', H', J, rv, q⟩ := z
    exact ⟨v, H', J.os, J.bare, J.base, J.hok, rv, q⟩
  | next =>
    obtain ⟨σ', H', J, q⟩ := z
    exact ⟨V.non, H', J.os, J.bare, J.base, J.hok, rfl, q⟩
  | brk => exact z.elim fun _ ⟨_, _, q⟩ => q.elim
  | cont => exact z.elim fun _ ⟨_, _, q⟩ => q.elim
end
section
variable {X : Cx} {σ : L2.St} {H : Hp} {k : Nat} {f : Addr} {fd : FuncData} {ps ks : List Str} {sp : Sp} {E : L2.St → XK} {x : Str} {p pos : Pos} {e : Expr} {es : List Expr} {kws : List Keyword} {t tk : TA}
theorem runG {pins : List (Addr × Obj)} {s : Shared} {Q : VK} {as : Args} {us : List Value} {vs : List V} (F : FnG X.prog X.w X.K X.mg X.base k f fd ps sp) (hr : Room k X.A) (gu : X.A.guards = some []) (hx : PassesAt (L2.CX X.prog X.w) X σ (E σ))
    (I : Inv X pins σ H s) (hb : us.length = ps.length → BindsTo s fd as (ps.zip us)) (r : Vals vs us) (h : sp vs H Q (E σ)) : wpAny (model X.prog X.w) X.A (call (.ref f) as.pos as.kw) (EP X pins σ Q) X.xe s := by
  have hl : us.length = ps.length := by rw [← r.length]; exact F.len _ _ _ _ h
  refine wpAny_call (codeAny_mono (F.run X.A X.stack s H as us vs Q (E σ) hr gu I.env0 (hb hl) r h) fun r s' hq => ?_)
  cases r with
  | error er => exact hx pins H s er s' I hq
  | ok fl =>
    cases fl with
    | ret u => exact I.after hq
    | next => exact False.elim hq
    | brk => exact False.elim hq
    | cont => exact False.elim hq
/-- f(e, ..) -/
theorem pe_callG (F : FnG X.prog X.w X.K X.mg X.base k f fd ps sp) (hr : Room k X.A) (gu : X.A.guards = some []) (hg : Gl X x) (hm : X.mg x = some (.ref f)) (hk : PySem.W.keepIn X.K (.ref f) = true) (hb : L2.Binds X.K fd ps []) (hx : ∀ σ, PassesAt (L2.CX X.prog X.w) X σ (E σ))
    (ha : PA X (e :: es) t) (hdb : (x == ("__debug__" : Str)) = false := by decide) (he : starEach (e :: es) X.env = (false, eval e X.env) :: starEach es X.env := by rfl) (hpl : (backTo pos (starEach es X.env)).any (·.1) = false := by rfl) :
    PE X (.Call (.Name x p) (e :: es) [] pos) (tCallS sp E t) := by
  refine ⟨fun pins s σ H Q I h => wpAny_Call_Name_kw (ld_glob I hg hm ?_ hdb)⟩
  refine PySem.W.callWith_K (h₀ := X.base) I.ok.mod.kin hk (thn (ha.run pos pins s σ H _ I h) fun us s1 ⟨vs, H1, I1, r, q⟩ => ⟨I1.kIn, ?_⟩) he hpl
  refine runG (as := ⟨us, []⟩) F hr gu (hx σ) I1 (fun hl => ?_) r q
  have b := hb s1 us I1.kIn (by rw [List.append_nil]; exact hl)
  rw [List.append_nil] at b
  exact b
/-- f(e, .., k = v, ..), f(k = v, ..) -/
theorem pe_callKG {g : List Value → List Value → List Value} {gV : List V → List V → List V} (F : FnG X.prog X.w X.K X.mg X.base k f fd ps sp) (hr : Room k X.A) (gu : X.A.guards = some []) (hg : Gl X x) (hm : X.mg x = some (.ref f)) (hk : PySem.W.keepIn X.K (.ref f) = true) (hb : KBinds X.K fd ps ks g gV) (hx : ∀ σ, PassesAt (L2.CX X.prog X.w) X σ (E σ))
    (ha : PA X (e :: es) t) (hkw : PK X kws tk) (hall : (backToKw pos (keywordEach kws X.env)).all (·.1.isSome) = true := by rfl) (hks : (backToKw pos (keywordEach kws X.env)).filterMap (·.1) = ks := by rfl)
    (hdb : (x == ("__debug__" : Str)) = false := by decide) (he : starEach (e :: es) X.env = (false, eval e X.env) :: starEach es X.env := by rfl)
    (hpl : ((backTo pos (starEach (e :: es) X.env)).any (·.1) || (backToKw pos (keywordEach kws X.env)).any (·.1.isNone)) = false := by rfl) :
    PE X (.Call (.Name x p) (e :: es) kws pos) (fun σ H Q => t σ H fun vs H1 => tk σ H1 fun zs H2 => sp (gV vs zs) H2 Q (E σ)) := by
  refine ⟨fun pins s σ H Q I h => wpAny_Call_Name_kw (ld_glob I hg hm ?_ hdb)⟩
  refine PySem.W.callWith_KW (h₀ := X.base) I.ok.mod.kin hk hall (thn (ha.run pos pins s σ H _ I h) fun us s1 ⟨vs, H1, I1, r, q⟩ => ?_) hpl he
  refine thn (hkw.run pos pins s1 σ H1 _ I1 q) fun ws s2 ⟨zs, H2, I2, rz, q2⟩ => ⟨I2.kIn, ?_⟩
  rw [hks]
  exact runG (as := ⟨us, ks.zip ws⟩) (us := g us ws) F hr gu (hx σ) I2 (fun hl => hb.to s2 us ws I2.kIn hl) (hb.rel r rz) q2
end
section
variable {X : Cx} {T : Tab} {ξ : Xi} {W : WX} {σ σ' : L2.St} {ρ : Ro} {H H' : Hp} {Z Z' : Z1} {F : F1}
/-! ### 31. calls -/
@[simp] def fCallD (φ : List D → Rd) (g : Fr (List D)) : Fr Sl := fun ρ => (g ρ).bind fun ds ρ' => match φ ds with
  | .rt s => .ok s ρ'
  | .ex n d => .ex n d ρ'
  | .st => .st
theorem callD_core {φ : List D → Rd} {n : Nat} {ds : List D} {vs : List V} {Q : VK} (s : Sta X.K X.mg T ξ H Z F σ ρ) (r : RpL X.K X.mg H Z ds vs) (hn : ds.length = n)
    (h : PstV X T ξ W σ (match φ ds with | .rt s => .ok [s] ρ | .ex n d => .ex n d ρ | .st => .st) (fun vs H' => ∀ v, vs = [v] → Q v H') H Z F) : spD X.K X.mg T φ n vs H Q (WE W σ) := by
  refine ⟨ds, Z, r, s.zh, hn, ?_⟩
  cases e : φ ds with
  | st => rw [e] at h; exact h
  | ex k d =>
    rw [e] at h
    exact fun v H' Z' da x zh rv hd hz => h v H' Z' F da ((x.grow (O := own F)).sub fun _ z => .inl z) (s.grow x zh) rv hd hz
  | rt sl =>
    rw [e] at h
    intro v H' Z' P x zh rs nz
    refine h [v] H' Z' F [P] ((x.grow (O := own F)).sub fun a z => z.imp id pend_one.mp) (s.grow x zh) (RpSs.one rs) (fun a q => ?_) v rfl
    have q := pend_one.mp q
    refine ⟨fun o => ?_, nz a q⟩
    obtain ⟨u, hu⟩ := s.has o
    rcases x.oo a q with z | z
    · exact z
    · rw [hu] at z; cases z
section
variable {φ : List D → Rd} {n k : Nat} {f : Addr} {fd : FuncData} {ps : List Str} {x : Str} {p pos : Pos} {e : Expr} {es : List Expr} {g : Fr (List D)}
theorem dv_call (Fo : FnG X.prog X.w X.K X.mg X.base k f fd ps (spD X.K X.mg T φ n)) (hr : Room k X.A) (gu : X.A.guards = some []) (hg : Gl X x) (hm : X.mg x = some (.ref f)) (hk : PySem.W.keepIn X.K (.ref f) = true) (hb : L2.Binds X.K fd ps []) (tk : Takes X W)
    (ha : DA X T ξ W (e :: es) g) (hn : ∀ ρ ds ρ', g ρ = .ok ds ρ' → ds.length = n) (hdb : (x == ("__debug__" : Str)) = false := by decide) (he : starEach (e :: es) X.env = (false, eval e X.env) :: starEach es X.env := by rfl) (hpl : (backTo pos (starEach es X.env)).any (·.1) = false := by rfl) :
    DV X T ξ W (.Call (.Name x p) (e :: es) [] pos) (fCallD φ g) := by
  refine (pe_callG (E := WE W) Fo hr gu hg hm hk hb (passAt tk) ha hdb he hpl).to fun σ H Q ⟨ρ, Z, F, s, h⟩ => ⟨ρ, Z, F, s, ?_⟩
  have h' : PstV X T ξ W σ ((g ρ).bind fun ds ρ' => match φ ds with
    | .rt s => .ok [s] ρ'
    | .ex n d => .ex n d ρ'
    | .st => .st) (fun vs H' => ∀ v, vs = [v] → Q v H') H Z F := by
    unfold fOne fCallD at h
    cases e : g ρ with
    | st => rw [e] at h; exact h
    | ex n d ρ' => rw [e] at h; exact h
    | ok ds ρ1 =>
      rw [e] at h
      simp only [Res.bind] at h ⊢
      cases eg : φ ds with
      | rt s => simp only [eg] at h ⊢; exact h
      | ex n d => simp only [eg] at h ⊢; exact h
      | st => simp only [eg] at h ⊢; exact h
  have hd : ∀ ds ρ1, g ρ = .ok ds ρ1 → ds.length = n := fun ds ρ1 e => hn ρ ds ρ1 e
  cases eg : g ρ with
  | st => rw [eg] at h'; exact h'.elim
  | ex n d ρ' => rw [eg] at h'; exact h'
  | ok ds ρ1 =>
    rw [eg] at h'
    exact fun H1 Z1 F1 e1 s1 vs rvs => callD_core s1 rvs (hd ds ρ1 eg) (PstV.shift e1 h')
end
/-! ### 32. the draws' state handed on -/
theorem drOf_some {p : Addr} {sl : Sl} {m : Dr} (h : drOf p sl = some m) : sl = .ofDr p m := by
  cases sl with
  | dr q a b c =>
    by_cases e : q = p
    · simp only [drOf, if_pos e] at h
      cases h
      rw [e]
      rfl
    · simp only [drOf, if_neg e] at h; cases h
  | _ => cases h
theorem Sta.after {P P' : Z1} {sl : Sl} {i : Nat} (s : Sta X.K X.mg T ξ H Z F σ ρ) (hi : i < ρ.length) (x : Ext H Z (F i) H' Z' (fun a => P a ∨ P' a)) (zh : ∀ a, Z' a → ∃ o, H' a = some o) (r : RpS X.K X.mg T ξ H' Z' sl (σ.getD i none) P') (nz : ∀ a, P' a → ¬ Z' a) :
    Sta X.K X.mg T ξ H' Z' (fset F i P') σ (ρ.set i sl) ∧ Ext H Z (own F) H' Z' (fun a => own (fset F i P') a ∨ P a) := by
  have clash : ∀ {a j}, j ≠ i → F j a → ¬ (F i a ∨ H a = none) := fun {a j} n h z => z.elim (fun q => s.dj j i a n h q) fun q => by obtain ⟨u, hu⟩ := (s.rep j).has h; rw [hu] at q; cases q
  refine ⟨⟨fun j => ?_, fun k j a n h1 h2 => ?_, by rw [List.length_set]; exact s.ln, fun j a h z => ?_, zh⟩, ⟨fun b o hb n => x.keep b o hb fun q => n ⟨i, q⟩, x.zz, fun a z => ?_, fun a z => (x.zo a z).imp id fun z => z.imp (fun q => ⟨i, q⟩) id⟩⟩
  · rw [getD_set hi]
    by_cases e : j = i
    · subst e
      rw [if_pos rfl, fset_same]
      exact r
    · rw [if_neg e, fset_ne e]
      refine (s.rep j).mono (fun b o hb z => x.keep b o hb fun q => s.zf i b q z) (fun b o u hb => x.keep b _ hb fun q => s.nofrz hb ⟨i, q⟩) x.zz fun a pa => ?_
      obtain ⟨u, hu⟩ := (s.rep j).has pa
      rw [hu]
      exact x.keep a u hu fun q => s.dj j i a e pa q
  · by_cases e1 : k = i
    · subst e1
      rw [fset_same] at h1
      rw [fset_ne (Ne.symm n)] at h2
      exact clash (Ne.symm n) h2 (x.oo a (.inr h1))
    · by_cases e2 : j = i
      · subst e2
        rw [fset_same] at h2
        rw [fset_ne e1] at h1
        exact clash e1 h1 (x.oo a (.inr h2))
      · rw [fset_ne e1] at h1
        rw [fset_ne e2] at h2
        exact s.dj k j a n h1 h2
  · by_cases e : j = i
    · subst e
      rw [fset_same] at h
      exact nz a h z
    · rw [fset_ne e] at h
      exact (x.zo a z).elim (s.zf j a h) (clash e h)
  · rcases z with ⟨j, z⟩ | z
    · by_cases e : j = i
      · subst e
        rw [fset_same] at z
        exact (x.oo a (.inr z)).imp (fun q => ⟨j, q⟩) id
      · rw [fset_ne e] at z
        exact .inl ⟨j, z⟩
    · exact (x.oo a (.inl z)).imp (fun q => ⟨i, q⟩) id
@[simp] def isDr : Sl → Option (Addr × Dr)
  | .dr p a b c => some (p, a, b, c)
  | _ => none
theorem isDr_some {sl : Sl} {p : Addr} {m : Dr} (h : isDr sl = some (p, m)) : sl = .ofDr p m := by
  cases sl with
  | dr q a b c => cases h; rfl
  | _ => cases h
/-- f(m, ..) -/
@[simp] def fCallM (i : Nat) (φ : Addr → Dr → List D → Rm) (g : Fr (List D)) : Fr Sl := fun ρ => match isDr (ρ.getD i .no) with
  | some _ => (g ρ).bind fun ds ρ1 => match isDr (ρ1.getD i .no) with
    | some (p, m) => match φ p m ds with
      | .rt s m' => .ok s (ρ1.set i (.ofDr p m'))
      | .ex n d m' => .ex n d (ρ1.set i (.ofDr p m'))
      | .st => .st
    | none => .st
  | none => .st
theorem callM_core {φ : Addr → Dr → List D → Rm} {n i : Nat} {p : Addr} {m : Dr} {ds : List D} {us : List V} {Q : VK} (s : Sta X.K X.mg T ξ H Z F σ ρ) (e : ρ.getD i .no = .ofDr p m) (ep : σ.getD i none = some (.ref p)) (r : RpL X.K X.mg H Z ds us) (hn : ds.length + 1 = n)
    (h : PstV X T ξ W σ (match φ p m ds with | .rt s m' => .ok [s] (ρ.set i (.ofDr p m')) | .ex n d m' => .ex n d (ρ.set i (.ofDr p m')) | .st => .st) (fun vs H' => ∀ v, vs = [v] → Q v H') H Z F) : spM X.K X.mg T φ n (.ref p :: us) H Q (WE W σ) := by
  have hi := lt_of_getD e (by unfold Sl.ofDr; nofun)
  have ri := s.rep i
  rw [e, ep] at ri
  refine ⟨p, us, m, ds, Z, F i, rfl, ri, fun a q => s.zf i a q, r, s.zh, hn, ?_⟩
  cases eq : φ p m ds with
  | st => rw [eq] at h; exact h
  | ex k d m' =>
    rw [eq] at h
    intro v H' Z' P' da x zh rs nz rv hd hz
    obtain ⟨s2, x2⟩ := s.after (P := Non) (sl := .ofDr p m') hi (x.sub fun a z => z.elim (fun z => z.elim) id) zh (by rw [ep]; exact rs) nz
    exact h v H' Z' _ da (x2.sub fun _ z => .inl z) s2 rv hd hz
  | rt sl m' =>
    rw [eq] at h
    intro v H' Z' P P' x zh rs rd dj nz
    obtain ⟨s2, x2⟩ := s.after (P := P) (sl := .ofDr p m') hi x zh (by rw [ep]; exact rd) fun a q => nz a (.inr q)
    refine h [v] H' Z' _ [P] (x2.sub fun a z => z.imp id pend_one.mp) s2 (RpSs.one rs) (fun a q => ?_) v rfl
    have q := pend_one.mp q
    refine ⟨fun ⟨j, o⟩ => ?_, nz a (.inl q)⟩
    by_cases ej : j = i
    · subst ej
      rw [fset_same] at o
      exact dj a q o
    · rw [fset_ne ej] at o
      obtain ⟨u, hu⟩ := (s.rep j).has o
      rcases x.oo a (.inl q) with z | z
      · exact s.dj j i a ej o z
      · rw [hu] at z; cases z
section
variable {φ : Addr → Dr → List D → Rm} {n k : Nat} {f : Addr} {fd : FuncData} {ps : List Str} {x y : Str} {p pos py : Pos} {es : List Expr} {g : Fr (List D)}
theorem dv_callM (i : Nat) (Fo : FnG X.prog X.w X.K X.mg X.base k f fd ps (spM X.K X.mg T φ n)) (hr : Room k X.A) (gu : X.A.guards = some []) (hg : Gl X x) (hm : X.mg x = some (.ref f)) (hk : PySem.W.keepIn X.K (.ref f) = true) (hb : L2.Binds X.K fd ps []) (tk : Takes X W)
    (ha : DA X T ξ W es g) (hn : ∀ ρ ds ρ', g ρ = .ok ds ρ' → ds.length + 1 = n) (hN : X.N[i]? = some y := by rfl) (hv : Vis X.env.scope y := by first | exact Or.inl rfl | exact Or.inr (Or.inl rfl) | exact Or.inr (Or.inr rfl)) (hd : (y == ("__debug__" : Str)) = false := by decide) (hcd : (y == ("__classdict__" : Str)) = false := by decide)
    (hdb : (x == ("__debug__" : Str)) = false := by decide) (he : starEach (.Name y py :: es) X.env = (false, eval (.Name y py) X.env) :: starEach es X.env := by rfl) (hpl : (backTo pos (starEach es X.env)).any (·.1) = false := by rfl) :
    DV X T ξ W (.Call (.Name x p) (.Name y py :: es) [] pos) (fCallM i φ g) := by
  refine (pe_callG (E := WE W) Fo hr gu hg hm hk hb (passAt tk) (pa_cons (pe_var hN hv hd hcd) ha he) hdb he hpl).to fun σ H Q ⟨ρ, Z, F, s, h⟩ => ?_
  have ri := s.rep i
  unfold fOne fCallM at h
  cases e0 : isDr (ρ.getD i .no) with
  | none => simp only [e0] at h; exact h.elim
  | some q0 =>
    simp only [e0] at h
    obtain ⟨p0, m0⟩ := q0
    rw [isDr_some e0] at ri
    obtain ⟨ep, _⟩ := ri
    refine ⟨.ref p0, getD_some ep, ρ, Z, F, s, ?_⟩
    have hd : ∀ ds ρ1, g ρ = .ok ds ρ1 → ds.length + 1 = n := fun ds ρ1 e => hn ρ ds ρ1 e
    cases eg : g ρ with
    | st => rw [eg] at h; exact h.elim
    | ex n d ρ' => rw [eg] at h; exact h
    | ok ds ρ1 =>
      rw [eg] at h
      intro H1 Z1 F1 e1 s1 us rus
      simp only [Res.bind] at h
      cases e2 : isDr (ρ1.getD i .no) with
      | none => simp only [e2] at h; exact h.elim
      | some q =>
        obtain ⟨p1, m1⟩ := q
        simp only [e2] at h
        have e3 := isDr_some e2
        have ri1 := s1.rep i
        rw [e3, ep] at ri1
        obtain ⟨ep1, _⟩ := ri1
        cases ep1
        refine callM_core s1 e3 ep rus (hd ds ρ1 eg) (PstV.shift e1 ?_)
        cases eq : φ p0 m1 ds with
        | rt sl m' => simp only [eq] at h ⊢; exact h
        | ex k d m' => simp only [eq] at h ⊢; exact h
        | st => simp only [eq] at h ⊢; exact h
end
theorem entM_getD {N : Nat} {p : Addr} {m : Dr} {ds : List D} {i : Nat} : (entM N p m ds).getD (i + 1) .no = match ds[i]? with | some d => .dat d | none => .no := by
  unfold entM
  rw [List.getD_eq_getElem?_getD, List.getElem?_cons_succ]
  by_cases h : i < ds.length
  · rw [List.getElem?_append_left (by simpa using h), List.getElem?_map, List.getElem?_eq_getElem h]
    rfl
  · rw [List.getElem?_append_right (by simpa using h), List.getElem?_replicate, List.getElem?_eq_none (show ds.length ≤ i by omega)]
    split <;> rfl
theorem sta_entM {N : List Str} {p : Addr} {m : Dr} {O : Z1} {ds : List D} {vs : List V} (rd : RpS X.K X.mg T none H Z (.ofDr p m) (some (.ref p)) O) (nz : ∀ a, O a → ¬ Z a) (r : RpL X.K X.mg H Z ds vs) (zh : ∀ a, Z a → ∃ o, H a = some o) (hn : ds.length + 1 ≤ N.length) :
    Sta X.K X.mg T ξ H Z (fun j => if j = 0 then O else Non) (L2.start N (.ref p :: vs)) (entM N.length p m ds) where
  rep := fun i => by
    cases i with
    | zero => exact rd.xi
    | succ i =>
      rw [entM_getD, start_getD, List.getElem?_cons_succ]
      cases e : ds[i]? with
      | none => exact fun _ z => z
      | some d =>
        obtain ⟨v, hv, rv⟩ := r.get e
        exact ⟨⟨v, hv, rv⟩, fun _ z => z⟩
  dj := fun i j a n h1 h2 => by
    by_cases e1 : i = 0
    · by_cases e2 : j = 0
      · exact n (e1.trans e2.symm)
      · rw [if_neg e2] at h2; exact h2
    · rw [if_neg e1] at h1; exact h1
  ln := by
    unfold entM L2.start
    simp [r.length]
  zf := fun i a h => by
    by_cases e : i = 0
    · rw [if_pos e] at h; exact nz a h
    · rw [if_neg e] at h; exact h.elim
  zh := zh
theorem body_M {N : List Str} {body : List Stmt} {f : Fs} {n : Nat} {Q : VK} {E : XK} {vs : List V} (hn : n ≤ N.length) (hs : spM X.K X.mg T (runM N.length f) n vs H Q E) : tDS X T none (fun cls d _ H => E cls d H) f { nx := fun _ H' => Q .non H', rt := Q } (L2.start N vs) H := by
  obtain ⟨p, us, m, ds, Z, O, rfl, rd, nz, r, zh, hl, h⟩ := hs
  refine ⟨entM N.length p m ds, Z, _, sta_entM rd nz r zh (by omega), ?_⟩
  have o1 : ∀ a, own (fun j : Nat => if j = 0 then O else Non) a → O a := fun a ⟨j, q⟩ => by
    by_cases e : j = 0
    · simp only [if_pos e] at q; exact q
    · simp only [if_neg e] at q; exact q.elim
  have xx : ∀ {H' : Hp} {Z' O' : Z1}, Ext H Z (own (fun j : Nat => if j = 0 then O else Non)) H' Z' O' → Ext H Z O H' Z' O' := fun x => ⟨fun b o hb n => x.keep b o hb fun q => n (o1 b q), x.zz, fun a q => (x.oo a q).imp (o1 a) id, fun a q => (x.zo a q).imp id fun z => z.imp (o1 a) id⟩
  unfold runM at h
  have fin : ∀ {ρ' : Ro} {m' : Dr} {σ' : L2.St} {H' : Hp} {Z' : Z1} {F' : F1}, drOf p (ρ'.getD 0 .no) = some m' → Sta X.K X.mg T none H' Z' F' σ' ρ' → RpS X.K X.mg T none H' Z' (.ofDr p m') (some (.ref p)) (F' 0) := fun {ρ' m' σ' H' Z' F'} e s' => by
    have r0 := s'.rep 0
    rw [drOf_some e] at r0
    obtain ⟨_, r0⟩ := r0
    exact ⟨rfl, r0⟩
  cases e : f (entM N.length p m ds) with
  | nx ρ' =>
    simp only [e] at h
    cases ed : drOf p (ρ'.getD 0 .no) with
    | none => simp only [ed] at h; exact h.elim
    | some m' =>
      simp only [ed] at h
      exact fun σ' H' Z' F' x s' => h .non H' Z' Non (F' 0) ((xx x).sub fun a z => z.elim (fun z => z.elim) fun q => ⟨0, q⟩) s'.zh ⟨⟨.non, rfl, rfl⟩, fun _ z => z⟩ (fin ed s') (fun _ z => z.elim) fun a z => z.elim (fun z => z.elim) fun q => s'.zf 0 a q
  | bk ρ' => simp only [e] at h; exact h.elim
  | ct ρ' => simp only [e] at h; exact h.elim
  | rt sl ρ' =>
    simp only [e] at h
    cases ed : drOf p (ρ'.getD 0 .no) with
    | none => simp only [ed] at h; exact h.elim
    | some m' =>
      simp only [ed] at h
      exact fun v σ' H' Z' F' P x s' rs np => h v H' Z' P (F' 0) ((xx x).sub fun a z => z.elim .inr fun q => .inl ⟨0, q⟩) s'.zh rs (fin ed s') (fun a q z => (np a q).1 ⟨0, z⟩) fun a z => z.elim (fun q => (np a q).2) fun q => s'.zf 0 a q
  | ex k d ρ' =>
    simp only [e] at h
    cases ed : drOf p (ρ'.getD 0 .no) with
    | none => simp only [ed] at h; exact h.elim
    | some m' =>
      simp only [ed] at h
      exact fun v σ' H' Z' F' da x s' rv hd hz => h v H' Z' (F' 0) da ((xx x).sub fun a q => ⟨0, q⟩) s'.zh (fin ed s') (fun a q => s'.zf 0 a q) rv hd hz
  | st => simp only [e] at h; exact h.elim
end
end Dt
namespace Dt
open PySem PySem.Spec PyProof.Rows L2

/-! ### 33. defs by their bodies -/
section
variable {P : Program} {w : World} {K : Frag} {mg : Str → Option Value} {base : Heap} {T : Tab} {k : Nat} {x qual : Str} {st : Stmt} {a : Addr} {fd : FuncData} {N ps : List Str} {f : Fs}
theorem fnD_of (Fu : Fun K x qual st a fd) (S : FnScope N ps (defScope st)) (hn : ps.length ≤ N.length)
    (hb : ∀ (cdv : Value) (A : Around) (outer : List Env) (s : Shared) (H : Hp) (E : XK), Room k (A.deeper (envOfC qual (defScope st) s.heap.objs.size a cdv)) → A.guards = some [] →
      DSs (cxOf (L2.CX P w) P w K mg base N qual (defScope st) a cdv A outer s H E) T none (fun cls d _ H => E cls d H) (defBody st) f) : FnG P w K mg base (k + 1) a fd ps (spD K mg T (runD N.length f) ps.length) :=
  fnG_of Fu S (fun vs H Q E ⟨ds, Z, r, _, hl, _⟩ => by rw [r.length, hl]) fun cdv A outer s H vs Q E hr gu prom => ⟨_, hb cdv A outer s H E hr gu, body_D (X := cxOf (L2.CX P w) P w K mg base N qual (defScope st) a cdv A outer s H E) (body := defBody st) hn prom⟩
theorem fnM_of (Fu : Fun K x qual st a fd) (S : FnScope N ps (defScope st)) (hn : ps.length ≤ N.length)
    (hb : ∀ (cdv : Value) (A : Around) (outer : List Env) (s : Shared) (H : Hp) (E : XK), Room k (A.deeper (envOfC qual (defScope st) s.heap.objs.size a cdv)) → A.guards = some [] →
      DSs (cxOf (L2.CX P w) P w K mg base N qual (defScope st) a cdv A outer s H E) T none (fun cls d _ H => E cls d H) (defBody st) f) : FnG P w K mg base (k + 1) a fd ps (spM K mg T (runM N.length f) ps.length) :=
  fnG_of Fu S (fun vs H Q E ⟨p, us, m, ds, Z, O, e, _, _, r, _, hl, _⟩ => by rw [e, List.length_cons, r.length, hl]) fun cdv A outer s H vs Q E hr gu prom => ⟨_, hb cdv A outer s H E hr gu, body_M (X := cxOf (L2.CX P w) P w K mg base N qual (defScope st) a cdv A outer s H E) (body := defBody st) hn prom⟩
end

/-! ### 34. calls with keywords -/
/-- the places idx of us ++ ws, if these are n and m -/
def sel {α : Type} (idx : List Nat) (n m : Nat) (us ws : List α) : List α := if us.length = n ∧ ws.length = m then idx.filterMap fun i => (us ++ ws)[i]? else []
section
variable {X : Cx} {T : Tab} {ξ : Xi} {W : WX} {σ σ' : L2.St} {ρ : Ro} {H H' : Hp} {Z Z' : Z1} {F : F1}
theorem RpL.pick {K : Frag} {mg : Str → Option Value} {ds : List D} {vs : List V} (r : RpL K mg H Z ds vs) : ∀ idx : List Nat, RpL K mg H Z (idx.filterMap fun i => ds[i]?) (idx.filterMap fun i => vs[i]?)
  | [] => rfl
  | i :: idx => by
    rw [List.filterMap_cons, List.filterMap_cons]
    cases e : ds[i]? with
    | none =>
      have e' : vs[i]? = none := by rw [List.getElem?_eq_none_iff] at e ⊢; rw [r.length]; exact e
      rw [e']
      exact RpL.pick r idx
    | some d =>
      obtain ⟨v, hv, rv⟩ := r.get e
      rw [hv]
      exact ⟨v, _, rfl, rv, RpL.pick r idx⟩
theorem Vals.pick {vs : List V} {us : List Value} (r : Vals vs us) : ∀ idx : List Nat, Vals (idx.filterMap fun i => vs[i]?) (idx.filterMap fun i => us[i]?)
  | [] => .nil
  | i :: idx => by
    rw [List.filterMap_cons, List.filterMap_cons]
    cases e : vs[i]? with
    | none =>
      have e' : us[i]? = none := by rw [List.getElem?_eq_none_iff] at e ⊢; rw [← r.length]; exact e
      rw [e']
      exact Vals.pick r idx
    | some d =>
      obtain ⟨v, hv, rv⟩ := r.get e
      rw [hv]
      exact .cons rv (Vals.pick r idx)
theorem kb_sel {K : Frag} {fd : FuncData} {ps ks : List Str} {idx : List Nat} {n m : Nat} (hp : ps ≠ []) (h : ∀ (us ws : List Value), us.length = n → ws.length = m → bindArgs fd ⟨us, ks.zip ws⟩ = pure (ps.zip (idx.filterMap fun i => (us ++ ws)[i]?))) :
    KBinds K fd ps ks (sel idx n m) (sel idx n m) where
  to := fun s us ws _ hl => by
    unfold sel at hl ⊢
    by_cases c : us.length = n ∧ ws.length = m
    · rw [if_pos c] at hl ⊢
      exact .of_eq (h us ws c.1 c.2)
    · rw [if_neg c] at hl
      exact absurd (List.eq_nil_of_length_eq_zero hl.symm) hp
  rel := fun {vs us zs ws} r q => by
    unfold sel
    rw [r.length, q.length]
    by_cases c : us.length = n ∧ ws.length = m
    · rw [if_pos c, if_pos c]
      exact Vals.pick (r.append q) idx
    · rw [if_neg c, if_neg c]
      exact .nil
abbrev DK (X : Cx) (T : Tab) (ξ : Xi) (W : WX) (kws : List Keyword) (f : Fr (List D)) : Prop := PK X kws (tDA X T ξ W f)
theorem _root_.L2.PK.to {X : Cx} {e : List Keyword} {t t' : TA} (h : PK X e t) (f : ∀ σ H Q, t' σ H Q → t σ H Q) : PK X e t' := ⟨fun pos pins s σ H Q I q => h.run pos pins s σ H Q I (f σ H Q q)⟩
theorem dk_nil : DK X T ξ W [] fNil := pk_nil.to fun _ _ _ ⟨_, _, _, s, h⟩ => h.here s _ rfl
theorem dk_cons {e : Expr} {kws : List Keyword} {nm : Option Str} {kpos : Pos} {f : Fr D} {g : Fr (List D)} (ha : DE X T ξ W e f) (hr : DK X T ξ W kws g) : DK X T ξ W (⟨nm, e, kpos⟩ :: kws) (fCons f g) := by
  refine (pk_cons ha hr).to fun σ H Q ⟨ρ, Z, F, s, h⟩ => ⟨ρ, Z, F, s, ?_⟩
  refine (Pst.bind h).imp fun d ρ1 H1 Z1 F1 e1 s1 h1 v rv => ⟨ρ1, Z1, F1, s1, (Pst.bind h1).imp fun ds ρ2 H2 Z2 F2 e2 s2 h2 vs rvs => ?_⟩
  exact h2.here s2 _ ⟨v, vs, rfl, rv.ext e2 s1.dz, rvs⟩
@[simp] def fArgK (idx : List Nat) (n m : Nat) (g gk : Fr (List D)) : Fr (List D) := fun ρ => (g ρ).bind fun ds ρ1 => (gk ρ1).bind fun es ρ2 => .ok (sel idx n m ds es) ρ2
theorem RpL.sel {K : Frag} {mg : Str → Option Value} {ds es : List D} {vs zs : List V} (r : RpL K mg H Z ds vs) (q : RpL K mg H Z es zs) (idx : List Nat) (n m : Nat) : RpL K mg H Z (Dt.sel idx n m ds es) (Dt.sel idx n m vs zs) := by
  unfold Dt.sel
  rw [r.length, q.length]
  by_cases c : ds.length = n ∧ es.length = m
  · rw [if_pos c, if_pos c]
    exact RpL.pick (r.app q) idx
  · rw [if_neg c, if_neg c]
    rfl
section
variable {φ : List D → Rd} {n k : Nat} {f : Addr} {fd : FuncData} {ps ks : List Str} {x : Str} {p pos : Pos} {e : Expr} {es : List Expr} {kws : List Keyword} {g gk : Fr (List D)} {idx : List Nat} {a b : Nat}
theorem call_fin {g : Fr (List D)} {Q : VK} (hn : ∀ ρ ds ρ', g ρ = .ok ds ρ' → ds.length = n) (h : PstV X T ξ W σ (fOne (fCallD φ g) ρ) (fun vs H' => ∀ v, vs = [v] → Q v H') H Z F) :
    Pst X T ξ W σ (g ρ) (fun ds _ H1 Z1 F1 => ∀ vs, RpL X.K X.mg H1 Z1 ds vs → spD X.K X.mg T φ n vs H1 Q (WE W σ)) H Z F := by
  unfold fOne fCallD at h
  have hd : ∀ ds ρ1, g ρ = .ok ds ρ1 → ds.length = n := fun ds ρ1 e => hn ρ ds ρ1 e
  cases eg : g ρ with
  | st => rw [eg] at h; exact h.elim
  | ex n d ρ' => rw [eg] at h; exact h
  | ok ds ρ1 =>
    rw [eg] at h
    simp only [Res.bind] at h
    refine fun H1 Z1 F1 e1 s1 vs rvs => callD_core s1 rvs (hd ds ρ1 eg) (PstV.shift e1 ?_)
    cases eq : φ ds with
    | rt s => simp only [eq] at h ⊢; exact h
    | ex n d => simp only [eq] at h ⊢; exact h
    | st => simp only [eq] at h ⊢; exact h
theorem dv_callK (Fo : FnG X.prog X.w X.K X.mg X.base k f fd ps (spD X.K X.mg T φ n)) (hr : Room k X.A) (gu : X.A.guards = some []) (hg : Gl X x) (hm : X.mg x = some (.ref f)) (hk : PySem.W.keepIn X.K (.ref f) = true) (hb : KBinds X.K fd ps ks (Dt.sel idx a b) (Dt.sel idx a b)) (tk : Takes X W)
    (ha : DA X T ξ W (e :: es) g) (hkw : DK X T ξ W kws gk) (hn : ∀ ρ ds ρ', fArgK idx a b g gk ρ = .ok ds ρ' → ds.length = n) (hall : (backToKw pos (keywordEach kws X.env)).all (·.1.isSome) = true := by rfl) (hks : (backToKw pos (keywordEach kws X.env)).filterMap (·.1) = ks := by rfl)
    (hdb : (x == ("__debug__" : Str)) = false := by decide) (he : starEach (e :: es) X.env = (false, eval e X.env) :: starEach es X.env := by rfl)
    (hpl : ((backTo pos (starEach (e :: es) X.env)).any (·.1) || (backToKw pos (keywordEach kws X.env)).any (·.1.isNone)) = false := by rfl) :
    DV X T ξ W (.Call (.Name x p) (e :: es) kws pos) (fCallD φ (fArgK idx a b g gk)) := by
  refine (pe_callKG (E := WE W) Fo hr gu hg hm hk hb (passAt tk) ha hkw hall hks hdb he hpl).to fun σ H Q ⟨ρ, Z, F, s, h⟩ => ⟨ρ, Z, F, s, ?_⟩
  have h1 := call_fin hn h
  unfold fArgK at h1
  refine (Pst.bind h1).imp fun ds ρ1 H1 Z1 F1 e1 s1 h2 vs rvs => ⟨ρ1, Z1, F1, s1, (Pst.bind h2).imp fun es ρ2 H2 Z2 F2 e2 s2 h3 zs rzs => ?_⟩
  exact h3.here s2 _ ((rvs.ext e2 s1.dz).sel rzs idx a b)
/-- f(k = v, ..) -/
theorem dv_callK0 (Fo : FnG X.prog X.w X.K X.mg X.base k f fd ps (spD X.K X.mg T φ n)) (hr : Room k X.A) (gu : X.A.guards = some []) (hg : Gl X x) (hm : X.mg x = some (.ref f)) (hk : PySem.W.keepIn X.K (.ref f) = true) (hb : KBinds X.K fd ps ks (Dt.sel idx 0 b) (Dt.sel idx 0 b)) (tk : Takes X W)
    (hkw : DK X T ξ W kws gk) (hn : ∀ ρ ds ρ', fArgK idx 0 b fNil gk ρ = .ok ds ρ' → ds.length = n) (hall : (backToKw pos (keywordEach kws X.env)).all (·.1.isSome) = true := by rfl) (hks : (backToKw pos (keywordEach kws X.env)).filterMap (·.1) = ks := by rfl)
    (hdb : (x == ("__debug__" : Str)) = false := by decide) (hpl : ((backTo pos (starEach [] X.env)).any (·.1) || (backToKw pos (keywordEach kws X.env)).any (·.1.isNone)) = false := by rfl) :
    DV X T ξ W (.Call (.Name x p) [] kws pos) (fCallD φ (fArgK idx 0 b fNil gk)) := by
  refine PE.to (t := fun σ H Q => tDA X T ξ W gk σ H fun zs H2 => spD X.K X.mg T φ n (Dt.sel idx 0 b [] zs) H2 Q (WE W σ)) ⟨fun pins s σ H Q I h => wpAny_Call_Name_kw (ld_glob I hg hm ?_ hdb)⟩ fun σ H Q ⟨ρ, Z, F, s, h⟩ => ⟨ρ, Z, F, s, ?_⟩
  · refine PySem.W.callWith_KW0 (h₀ := X.base) I.ok.mod.kin hk hall (thn (hkw.run pos pins s σ H _ I h) fun ws s2 ⟨zs, H2, I2, rz, q2⟩ => ⟨I2.kIn, ?_⟩) hpl
    rw [hks]
    exact runG (E := WE W) (as := ⟨[], ks.zip ws⟩) (us := Dt.sel idx 0 b [] ws) Fo hr gu (passAt tk σ) I2 (fun hl => hb.to s2 [] ws I2.kIn hl) (hb.rel .nil rz) q2
  · have h1 := call_fin hn h
    have h2 : Pst X T ξ W σ ((gk ρ).bind fun es ρ2 => .ok (Dt.sel idx 0 b [] es) ρ2) (fun ds _ H1 Z1 F1 => ∀ vs, RpL X.K X.mg H1 Z1 ds vs → spD X.K X.mg T φ n vs H1 Q (WE W σ)) H Z F := h1
    exact (Pst.bind h2).imp fun es ρ2 H2 Z2 F2 e2 s2 h3 zs rzs => h3.here s2 _ (RpL.sel (ds := []) (vs := []) rfl rzs idx 0 b)
end
end
end Dt
namespace Dt
open PySem PySem.Spec PyProof.Rows L2
/-! ### 35. an own exception: super().__init__('..', v); self.f = v -/
/-- the text of its __init__ -/
def xiA (v : Str) (p1 p2 : Pos) : Arguments := { posonlyargs := [], args := [{ arg := "self", annotation := none, pos := p1 }, { arg := v, annotation := none, pos := p2 }], vararg := none, kwonlyargs := [], kw_defaults := [], kwarg := none, defaults := [] }
structure XPos where
  a : Pos
  b : Pos
  c : Pos
  d : Pos
  e : Pos
  f : Pos
  g : Pos
  h : Pos
  i : Pos
  k : Pos
  l : Pos
def xiB (txt f v : Str) (q : XPos) : List Stmt := [
  .Expr (.Call (.Attribute (.Call (.Name "super" q.a) [] [] q.b) "__init__" q.c) [.Constant (.str txt) 0 q.d, .Name v q.e] [] q.f) q.g,
  .Assign [.Attribute (.Name "self" q.h) f q.i] (.Name v q.k) q.l]
def xiS (v : Str) : Scope := { kind := .function, names := [(PySem.Str.ofString "self", .local), (v, .local), (PySem.Str.ofString "__class__", .free), (PySem.Str.ofString "super", .globalImplicit)], isGenerator := false, isCoroutine := false, more := [] }
/-- how the call of super().__init__ reads (by rfl where the places are written) -/
def xiEv (txt v : Str) (q : XPos) : Prop := ∀ env : Env, ∃ pl : Sem Bool, eval (.Call (.Attribute (.Call (.Name "super" q.a) [] [] q.b) "__init__" q.c) [.Constant (.str txt) 0 q.d, .Name v q.e] [] q.f) env = (do
  let ov ← attributeBase (.Call (.Name "super" q.a) [] [] q.b) "__init__" env (eval (.Call (.Name "super" q.a) [] [] q.b) env)
  standAt q.c.atName
  let (f, first) ← holding [ov] (getMethod ov "__init__" pl)
  callWith q.f f first (backTo q.f (starEach [.Constant (.str txt) 0 q.d, .Name v q.e] env)) [])
/-- what the written part says of the class C and of its __init__, at fI -/
structure XTxt (P : Program) (K : Frag) (C fI : Addr) (txt f v : Str) : Prop where
  cls : ∃ nm q N bs bm sn sub ab col dd k0 k1 k2 k3 k5, K.lookup C = some (excClassObj nm q C N bs bm true sn sub ab col dd k0 k1 k2 k3 k5 "ValueError.__new__") ∧ PySem.HandSPX.refsVE bm = true
  sa : PySem.W.findIn K (.ref C) "__setattr__" = some (some (.builtin "object.__setattr__"))
  noN : PySem.W.findIn K (.ref C) f = some none
  iC : PySem.W.findIn K (.ref C) "__init__" = some (some (.ref fI))
  tC : PySem.W.typeIn K (.ref fI) = some (.type "function")
  kC : PySem.W.keepIn K (.ref C) = true
  exC : PySem.W.subIn K (.ref C) (.type "BaseException") = some true
  tyC : PySem.W.typeIn K (.ref C) = some (.type "type")
  up : PySem.W.ks_superIn K C C "__init__" = some (some (.builtin "ValueError.__init__"))
  veC : PySem.W.subIn K (.ref C) (.type "ValueError") = some true
  any : PySem.W.nsIn K cStatics "thirdparty.any" = some none
  own : PySem.W.mroIn K C (.ref C) = some true
  top : (P.main.scope.names.lookup ("super" : Str)).isSome = false
  fn : ∃ (q : Str) (oc ccl cl : Value) (od an cdd cld : Option Addr) (doc pm ct : Value) (osl ccs csl : Array (Option Value)) (cda cc : Addr) (p1 p2 : Pos) (qq : XPos) (vs : Array Value) (file : Str) (tf : Tok),
    K.lookup fI = some ⟨oc, od, .func (PySem.W.ksFn "__init__" q (xiA v p1 p2) (xiB txt f v qq) (xiS v) .none .none doc pm an (.ref cda) ct cc), osl⟩ ∧ PySem.W.codeIn K (.ref cda) q = true ∧
      K.lookup cda = some ⟨ccl, cdd, .fields vs, ccs⟩ ∧ vs[2]? = some (.str file tf) ∧ ((P.main.file : Str) == file) = true ∧ K.lookup cc = some ⟨cl, cld, .cell (some (.ref C)), csl⟩ ∧ xiEv txt v qq
/-- the text of the parameter's name: none of those that the walk asks of -/
structure XNm (v : Str) : Prop where
  a : (v == ("self" : Str)) = false
  b : (v == ("__class__" : Str)) = false
  c : (v == ("super" : Str)) = false
  d : (v == ("__debug__" : Str)) = false

section
open PySem.W PySem.Calls PySem.HandSPX
/-- what __init__ leaves of a fresh exception at x -/
structure XEnd (h h' : Heap) (x C dx t1 : Addr) (f : Str) (u : Value) : Prop where
  keep : ∀ b o, b ≠ x → h.get? b = some o → h'.get? b = some o
  obj : h'.get? x = some { cls := .ref C, dict := some dx, data := .fields #[.ref t1, .none, .none, .none, .bool false, .none] }
  dbig : h.objs.size ≤ dx
  dne : dx ≠ x
  ns : h'.Ns1 dx (fun y => if y = f then some u else none)
variable {prog : Program} {w : World} {A : Around} {E : Value → Shared → Prop} {R : Result → Shared → Prop} {s : Shared} {K : Frag} {mg mb : Str → Option Value} {C fI : Addr} {txt f v : Str}
theorem xiS_nocell {v : Str} (hv : v = "place" ∨ v = "value" ∨ v = "most") : ∀ y ∈ (xiS v).names, y.2 ≠ .cell := by
  rcases hv with rfl | rfl | rfl <;> decide
theorem x_call {u x t0 : Addr} {nm q : Str} {N : Addr} {bs bm : List Value} {sn : List Str} {sub : List Value} {ab : Bool} {col : Option Bool} {dd : Option Addr} {k0 k1 k2 k3 k5 : Option Value} {rest : List Value} {Q : Value → Shared → Prop}
    (hC : s.heap.get? C = some (excClassObj nm q C N bs bm true sn sub ab col dd k0 k1 k2 k3 k5 "ValueError.__new__")) (hu : s.heap.get? u = some (kxs_mw "ValueError.__init__" x)) (he : s.heap.get? x = some (excO C t0)) (hz : rest.length ≤ sizeLine)
    (h : ∀ h' t1, (∀ b o, b ≠ x → s.heap.get? b = some o → h'.get? b = some o) → h'.get? x = some (excO C t1) → Q .none { s with heap := h' }) : wpAny (model prog w) A (call (.ref u) rest) Q E s := by
  obtain ⟨hh, g, d, tk, os⟩ := s
  refine wpAny_call (codeAny_of_tree ?_)
  show wpAny _ A.in1 (callAny (.ref u) ⟨rest, []⟩) _ _ _
  simp only [callAny]
  refine wpAny_bind (wpAny_load hu ?_)
  simp only [kxs_mw, show (Value.type "method-wrapper" == Value.type "method" || Value.type "method-wrapper" == Value.type "builtin_function_or_method" || Value.type "method-wrapper" == Value.type "method-wrapper") = true by decide, if_true]
  refine KFB.if_so (by decide) (wpAny_bind (check_bound_init F.excBase_ValueError.toExcCallFacts hC he rfl (wpAny_bind (wpAny_pure (wpAny_pure ?_)))))
  refine ⟨plainId_quiet F.excBase_ValueError.init.plain _, codeAny_builtin F.excBase_ValueError.initEntry ?_⟩
  exact exc_init_tree (cls := .ref C) (t0 := t0) (dv := none) (c2 := .none) (c3 := .none) (b4 := .bool false) he hz fun h' k e' t' => h h' _ k e'
theorem x_init (T : XTxt prog K C fI txt f v) (hv : v = "place" ∨ v = "value" ∨ v = "most") {x t0 : Addr} {u : Value} (X : K.In s.heap) (G : s.heap.Ns mainGlobals mg) (hsup : mg "super" = none) (B : s.heap.Ns builtinsNs mb) (hbb : ∀ x : Str, x ≠ "__name__" → mb x = bootBuiltins x) (hlim : s.heap.NoLimit)
    (hx : s.heap.get? x = some (excO C t0)) (hnx : K.lookup x = none) (hroom : A.depth < recursionLimit) (hq : ∀ h' tk dx t1, XEnd s.heap h' x C dx t1 f u → R (.ok (.ret .none)) { s with heap := h', toks := tk }) :
    codeAny (model prog w) A (.call (.ref fI) ⟨[.ref x, u], []⟩) R s := by
  obtain ⟨q, oc, ccl, cl, od, an, cdd, cld, doc, pm, ct, osl, ccs, csl, cda, cc, p1, p2, qq, vs, file, tf, lk, hcd, lc, hvs, hfile, lcc, hev⟩ := T.fn
  obtain ⟨nm, qn, N, bs, bm, sn, sub, ab, col, dd, k0, k1, k2, k3, k5, hC, hbm⟩ := T.cls
  have hcl : clsIn K C = some { name := nm, bases := bs, mro := .ref C :: bm, ns := N, qualname := qn, hasDict := true, slotNames := sn, subclasses := sub, abstract := ab, collection := col, hasDel := false } := by unfold clsIn; rw [hC] <;> rfl
  have hl1 : (xiS v).names.lookup ("self" : Str) = some .local := by rcases hv with rfl | rfl | rfl <;> rfl
  have hl2 : (xiS v).names.lookup v = some .local := by rcases hv with rfl | rfl | rfl <;> rfl
  have hl3 : (xiS v).names.lookup ("super" : Str) = some .globalImplicit := by rcases hv with rfl | rfl | rfl <;> rfl
  have hl4 : (xiS v).names.lookup ("__class__" : Str) = some .free := by rcases hv with rfl | rfl | rfl <;> rfl
  have hdb : (v == ("__debug__" : Str)) = false := by rcases hv with rfl | rfl | rfl <;> decide
  have hm1 : ([("self", Value.ref x), (v, u)] : List (Str × Value)).reverse.lookup ("self" : Str) = some (.ref x) := by rcases hv with rfl | rfl | rfl <;> rfl
  have hm2 : ([("self", Value.ref x), (v, u)] : List (Str × Value)).reverse.lookup v = some u := by rcases hv with rfl | rfl | rfl <;> rfl
  refine ks_codeAny_call_defAt (fd := ksFn "__init__" q (xiA v p1 p2) (xiB txt f v qq) (xiS v) .none .none doc pm an (.ref cda) ct cc) (body := xiB txt f v qq) (binds := [("self", .ref x), (v, u)]) hroom (X _ _ lk) rfl hlim (codeRec_of X hcd) rfl (BindsTo.of_eq ?_) ?_ ?_ (fun h1 hns hk1 => ?_) rfl rfl rfl
  · rcases hv with rfl | rfl | rfl <;> rfl
  · exact xiS_nocell hv
  · intro y hy
    rcases List.mem_cons.mp hy with rfl | hy
    · exact hl1
    · rcases List.mem_cons.mp hy with rfl | hy
      · exact hl2
      · cases hy
  have X1 : K.In h1 := X.keeps hk1
  have hx1 := hk1 _ _ hx
  have hC1 := X1 _ _ hC
  obtain ⟨hp, gg, dr, tk, os⟩ := s
  obtain ⟨pl, hev⟩ := hev (callEnv (ksFn "__init__" q (xiA v p1 p2) (xiB txt f v qq) (xiS v) .none .none doc pm an (.ref cda) ct cc) (⟨hp, gg, dr, tk, os⟩ : Shared).heap.objs.size fI)
  refine ks_wpAt_execs_cons (ks_wpAt_Expr_any (ks_wpAt_MethodCall (pl := pl) ?_ hev) (by rfl) (by rfl))
  refine ks_wpAt_super_base hl3 hl4 rfl rfl (X1 _ _ lk) rfl rfl rfl (X1 _ _ lc) rfl hvs hfile T.top ?_
  refine ks_loadName_global rfl hl3 (loadGlobal_builtin (G.keeps hk1) hsup (B.keeps hk1) ((hbb _ (by decide)).trans PyProof.Rows.Boot.«super») ⟨rfl, ?_⟩)
  refine wpAny_loadName_free rfl hl4 rfl ⟨_, X1 _ _ lcc, rfl⟩ ?_
  refine wpAny_loadName_local rfl hl1 hns hm1 ?_
  refine ks_wpAny_isType_cls hC1 rfl ⟨rfl, ?_⟩
  refine ks_wpAny_call_super hC1 rfl hx1 rfl nofun (looks_mroIn X1 T.own) fun h2 e2 hk2 => ?_
  have X2 : K.In h2 := X1.keeps hk2
  have hx2 := hk2 _ _ hx1
  have I2 : InstAt h2 x (excO C t0) C none := ⟨hx2, rfl, rfl, trivial⟩
  have up := T.up
  unfold ks_superIn at up
  rw [hcl, Option.bind_some] at up
  refine kxs_getMethod kxs_ValueError e2 (looks_opaque X2 T.any) (l₀ := .ref C :: bm) (fun A Q E s k q => wpAny_bind ((looks_clsIn X2 hcl) A _ E s k (wpAny_pure q))) rfl X2 up (I2.type.andThen (looks_subIn X2 T.veC)) (ks_ne X2 I2 hcl) rfl ?_
  -- super().__init__('..', v)
  have e3 : (h2.push (kxs_mw "ValueError.__init__" x)).get? h2.objs.size = some (kxs_mw "ValueError.__init__" x) := Heap.get?_push_at rfl rfl
  have k3 : ∀ b o, h2.get? b = some o → (h2.push (kxs_mw "ValueError.__init__" x)).get? b = some o := fun b o e => Heap.get?_push_of_some _ e
  have hns3 := (hns.keeps hk2).keeps k3
  have hkind : ∀ y : Str, Env.kindOf (callEnv (ksFn "__init__" q (xiA v p1 p2) (xiB txt f v qq) (xiS v) .none .none doc pm an (.ref cda) ct cc) (⟨hp, gg, dr, tk, os⟩ : Shared).heap.objs.size fI) y = (xiS v).names.lookup y := fun _ => rfl
  refine kxs_callWith (i := "ValueError.__init__") (x := x) rfl (evalArgs_plain ?_)
  refine spliced_cons (Constant_str (x := txt) (pos := qq.d) (k := 0) ?_)
  refine spliced_cons (wpAny_Name (x := v) (pos := qq.e) (wpAny_loadName_local rfl ((hkind v).trans hl2) hns3 hm2 ?_) hdb)
  refine spliced_nil ⟨e3, ?_⟩
  refine x_call (k3 _ _ (hk2 _ _ hC1)) e3 (k3 _ _ hx2) (by show 2 ≤ sizeLine; decide) fun h4 t1 k4 e4 => ?_
  -- self.f = v
  have kk : ∀ b o, b ≠ x → hp.get? b = some o → h4.get? b = some o := fun b o n e => k4 b o n (k3 b o (hk2 b o (hk1 b o e)))
  have X4 : K.In h4 := fun a o e => kk a o (fun z => by rw [z, hnx] at e; cases e) (X a o e)
  have hLx : hp.objs.size ≠ x := Nat.ne_of_gt (Heap.lt_size hx)
  have hns4 := hns3.at fun o e => k4 hp.objs.size o hLx e
  refine wpAt_of_wpAny (wpAny_execs_cons (plainObj_wpAny_Assign_Attribute ?_ (by rfl)))
  refine wpAny_Name (x := v) (wpAny_loadName_local rfl ((hkind v).trans hl2) hns4 hm2 ?_) hdb
  refine wpAny_Name (wpAny_loadName_local rfl ((hkind ("self" : Str)).trans hl1) hns4 hm1 ?_) (by decide)
  refine set_plain X4 (ox := excO C t1) (od := none) ⟨e4, rfl, rfl, trivial⟩ T.sa ?_
  refine exc_osa X4 e4 hcl (show refsVE (.ref C :: bm) = true from hbm) rfl T.noN (fun h5 tk5 dx k5 dn dne hx5 hn5 => ?_)
  show wpAny _ _ (execs _ _) _ _ _
  exact wpAny_execs_nil (hq h5 tk5 dx t1 ⟨fun b o hb e => k5 b o hb (kk b o hb e), hx5, Nat.le_of_lt (Nat.lt_of_lt_of_le hns4.lt dn), dne, hn5⟩)
/-- a made one -/
structure XMade (h h' : Heap) (e C d : Addr) (f : Str) (u : Value) : Prop where
  keep : ∀ b o, h.get? b = some o → h'.get? b = some o
  new : h.objs.size ≤ e
  obj : ∃ oe vs, h'.get? e = some oe ∧ oe.cls = .ref C ∧ oe.dict = some d ∧ oe.data = .fields vs ∧ vs[1]? = some .none
  dbig : h.objs.size ≤ d
  dne : d ≠ e
  ns : h'.Ns1 d (fun y => if y = f then some u else none)
theorem x_made (T : XTxt prog K C fI txt f v) (hv : v = "place" ∨ v = "value" ∨ v = "most") {u : Value} (X : K.In s.heap) (G : s.heap.Ns mainGlobals mg) (hsup : mg "super" = none) (B : s.heap.Ns builtinsNs mb) (hbb : ∀ x : Str, x ≠ "__name__" → mb x = bootBuiltins x) (hlim : s.heap.NoLimit) (hroom : A.depth + 1 < recursionLimit)
    (hq : ∀ h' tk e d, XMade s.heap h' e C d f u → R (.ok (.ret (.ref e))) { s with heap := h', toks := tk }) : codeAny (model prog w) A (.call (.ref C) ⟨[u], []⟩) R s := by
  obtain ⟨nm, q, N, bs, bm, sn, sub, ab, col, dd, k0, k1, k2, k3, k5, hC, hbm⟩ := T.cls
  obtain ⟨hp, g, dr, tk, os⟩ := s
  have kp : ∀ b o, hp.get? b = some o → ((hp.push (kdv_tup [u])).push (excO C hp.objs.size)).get? b = some o := fun b o e => Heap.get?_push_of_some _ (Heap.get?_push_of_some _ e)
  have he : ((hp.push (kdv_tup [u])).push (excO C hp.objs.size)).get? (hp.objs.size + 1) = some (excO C hp.objs.size) := by heap_get
  have hnx : K.lookup (hp.objs.size + 1) = none := by
    cases e : K.lookup (hp.objs.size + 1) with
    | none => rfl
    | some o => exact absurd (Nat.lt_of_succ_lt (Heap.lt_size (show hp.get? (hp.objs.size + 1) = some o from X _ _ e))) (Nat.lt_irrefl _)
  refine call_own F.excBase_ValueError (fun Y => refsVE_contains Y bm hbm) (X _ _ hC) (looks_findIn X T.iC) (fun self => bind_fn X self T.tC) (show [u].length ≤ sizeLine by show 1 ≤ sizeLine; decide) ?_
  refine x_init (s := ⟨(hp.push (kdv_tup [u])).push (excO C hp.objs.size), g, dr, tk, os⟩) T hv (X.keeps kp) (G.keeps kp) hsup (B.keeps kp) hbb (hlim.keeps kp) he hnx (show A.depth + 1 < recursionLimit from hroom) fun h' tk' dx t1 M => ?_
  have old : ∀ b o, hp.get? b = some o → h'.get? b = some o := fun b o e => M.keep b o (Nat.ne_of_lt (Nat.lt_succ_of_lt (Heap.lt_size e))) (kp b o e)
  have big : hp.objs.size + 1 + 1 ≤ dx := by
    have q := M.dbig
    rw [Heap.size_push, Heap.size_push] at q
    exact q
  exact ⟨rfl, hq h' tk' (hp.objs.size + 1) dx ⟨old, Nat.le_succ _, ⟨_, _, M.obj, rfl, rfl, rfl, rfl⟩, Nat.le_trans (Nat.le_trans (Nat.le_succ _) (Nat.le_succ _)) big, M.dne, M.ns⟩⟩
end
theorem relO_one {f : Str} {y : V} {y' : Value} (r : RelV y y') (g : Str) : RelO (List.lookup g [(f, y)]) (if g = f then some y' else none) := by
  by_cases e : g = f
  · subst e
    rw [if_pos rfl, show List.lookup g [(g, y)] = some y by simp [List.lookup]]
    exact r
  · rw [if_neg e, show List.lookup g [(f, y)] = none by simp [List.lookup, show (g == f) = false by simpa using e]]
    trivial
section
variable {X : Cx} {C fI : Addr} {txt f v nm : Str}
/-- C(e) -/
def tMkX (C : Addr) (f : Str) (ta : TA) : L2.St → Hp → XK → Prop := fun σ H Q => ta σ H fun vs H1 => ∃ v, vs = [v] ∧ ∀ d, H1 d = none → Q (.ref C) (some d) (upd H1 d (.xd [(f, v)]))
theorem pmk_x {a : Expr} {ta : TA} {p pos : Pos} {k : Nat} (T : XTxt X.prog X.K C fI txt f v) (hv : v = "place" ∨ v = "value" ∨ v = "most") (hsup : X.mg "super" = none) (hr : Room k X.A) (hg : Gl X nm) (hm : X.mg nm = some (.ref C)) (ha : PA X [a] ta)
    (hdb : (nm == ("__debug__" : Str)) = false := by decide) (he : starEach (a :: []) X.env = (false, eval a X.env) :: starEach [] X.env := by rfl) (hpl : (backTo pos (starEach [] X.env)).any (·.1) = false := by rfl) :
    PMk X (.Call (.Name nm p) [a] [] pos) (tMkX C f ta) := by
  intro pins s σ H Q I h
  refine wpAny_Call_Name_kw (ld_glob I hg hm ?_ hdb)
  refine PySem.W.callWith_K (h₀ := X.base) I.ok.mod.kin T.kC (thn (ha.run pos pins s σ H _ I h) fun us s1 hh => ?_) he hpl
  obtain ⟨vs, H1, I1, r1, y, ev, q1⟩ := hh
  subst ev
  refine ⟨I1.kIn, ?_⟩
  obtain ⟨y', rfl, ry⟩ := r1.one
  show wpAny _ _ (call (.ref C) [y']) _ _ _
  have hlim := I1.nolimit
  obtain ⟨mb, hB, hbb⟩ := I1.ok.mod.blt
  have hG : s1.heap.Ns mainGlobals X.mg := I1.ok.mod.glob.keeps I1.bk
  have hB' : s1.heap.Ns builtinsNs mb := hB.keeps I1.bk
  have hK := I1.kIn
  obtain ⟨hp, g, dr, tk, os⟩ := s1
  refine wpAny_call (x_made T hv hK hG hsup hB' hbb hlim (by have := hr.dp; omega) fun h' tk' e d M => ?_)
  show MkP X pins σ Q (.ref e) ⟨h', g, dr, tk', os⟩
  obtain ⟨oe, fv, hoe, hc, hd, hdat, h1⟩ := M.obj
  obtain ⟨G', g1, g2⟩ := restrict h' fun b => decide (b ≠ e)
  have gk : ∀ b, b ≠ e → G'.get? b = h'.get? b := fun b hb => g1 b (decide_eq_true hb)
  have ge : G'.get? e = none := g2 e (by simp)
  have old : ∀ b o, hp.get? b = some o → G'.get? b = some o := fun b o q => (gk b (Nat.ne_of_lt (Nat.lt_of_lt_of_le (Heap.lt_size q) M.new))).trans (M.keep b o q)
  have ob : ObjOk X.prog X.w (upd H1 d (.xd [(f, y)])) G' d (.xd [(f, y)]) := ⟨_, M.ns.at (fun o q => (gk d M.dne).trans q), fun f' => relO_one ry f'⟩
  have J : Inv X pins σ (upd H1 d (.xd [(f, y)])) ⟨G', g, dr, tk', os⟩ := I1.laid (t' := tk') old M.dbig ob
  refine ⟨e, oe, fv, ⟨G', g, dr, tk', os⟩, _, .ref C, some d, rfl, J, fun b o q => ?_, ge, hoe, ⟨hc, hd⟩, hdat, h1, ?_, rfl, I1.bare, raises_own T.exC T.tyC, q1 d (I1.hok.fresh M.dbig)⟩
  · by_cases hb : b = e
    · have q' : G'.get? b = some o := q
      rw [hb, ge] at q'; cases q'
    · exact (gk b hb).symm.trans q
  · rw [upd_ne (Ne.symm M.dne)]
    exact I1.hok.fresh M.new
variable {T : Tab} {ξ : Xi} {W : WX}
@[simp] def fRaise (n : Nat) (f : Fr D) : Fs := fun ρ => (f ρ).sr fun d ρ' => .ex n d ρ'
theorem ds_raise (n : Nat) {a : Expr} {g : Fr D} {p pos pos2 : Pos} {k : Nat} (hc : X.calm = true) (Tx : XTxt X.prog X.K (T.cls n) fI txt (T.fld n) v) (hv : v = "place" ∨ v = "value" ∨ v = "most") (hsup : X.mg "super" = none) (hr : Room k X.A) (hm : X.mg nm = some (.ref (T.cls n))) (tk : Takes X W) (hg : Gl X nm) (ha : DE X T ξ W a g)
    (hdb : (nm == ("__debug__" : Str)) = false := by decide) (he : starEach (a :: []) X.env = (false, eval a X.env) :: starEach [] X.env := by rfl) (hpl : (backTo pos (starEach [] X.env)).any (·.1) = false := by rfl) :
    DS X T ξ W (.Raise (some (.Call (.Name nm p) [a] [] pos)) none pos2) (fRaise n g) := by
  refine (ps_raise hc tk (pmk_x Tx hv hsup hr hg hm (pa_cons ha pa_nil he) hdb he hpl)).to fun E σ H ⟨ρ, Z, F, s, h⟩ => ⟨ρ, Z, F, s, (Pst.sr h).imp fun d ρ1 H1 Z1 F1 e1 s1 k y ry => ⟨y, rfl, fun da hda => ?_⟩⟩
  obtain ⟨s2, e2⟩ : Sta X.K X.mg T ξ (upd H1 da (.xd [(T.fld n, y)])) (fun a => Z1 a ∨ a = da) F1 σ ρ1 ∧ Ext H1 Z1 (own F1) (upd H1 da (.xd [(T.fld n, y)])) (fun a => Z1 a ∨ a = da) (own F1) := ⟨s1.new hda, Ext.new' hda⟩
  exact k y σ _ _ F1 da e2 s2 (ry.ext e2 s1.dz) upd_same (.inr rfl)
end
end Dt
namespace Dt
open PySem PySem.Spec PyProof.Rows L2
section
variable {X : Cx} {T : Tab} {ξ : Xi} {W : WX} {σ σ' : L2.St} {ρ : Ro} {H H' : Hp} {Z Z' : Z1} {F : F1}

/-! ### 36. try: .. except C as e: .. -/
def Sl.nex : Sl → Bool
  | .exc _ _ => false
  | _ => true
theorem RpS.toXi {ξ' : Xi} {s : Sl} {o : Option V} {P : Z1} (h : RpS X.K X.mg T ξ H Z s o P) (n : s.nex = true) : RpS X.K X.mg T ξ' H Z s o P := by
  cases s with
  | exc _ _ => cases n
  | _ => exact h
theorem Sta.toXi {ξ' : Xi} (s : Sta X.K X.mg T ξ H Z F σ ρ) (n : ρ.all Sl.nex = true) : Sta X.K X.mg T ξ' H Z F σ ρ := by
  refine ⟨fun i => (s.rep i).toXi ?_, s.dj, s.ln, s.zf, s.zh⟩
  rw [List.getD_eq_getElem?_getD]
  cases e : ρ[i]? with
  | none => rfl
  | some sl => exact List.all_eq_true.mp n sl (List.mem_of_getElem? e)
def fTry (i : Nat) (cat : Nat → Option Bool) (f g : Fs) : Fs := fun ρ => match f ρ with
  | .ex n d ρ1 => match cat n with
    | some true => if i < ρ1.length ∧ ρ1.all Sl.nex = true then (match g (ρ1.set i (.exc n d)) with
        | .nx ρ2 => if (ρ2.set i .no).all Sl.nex = true then .nx (ρ2.set i .no) else .st
        | .bk ρ2 => if (ρ2.set i .no).all Sl.nex = true then .bk (ρ2.set i .no) else .st
        | .ct ρ2 => if (ρ2.set i .no).all Sl.nex = true then .ct (ρ2.set i .no) else .st
        | .rt s ρ2 => if (ρ2.set i .no).all Sl.nex = true then .rt s (ρ2.set i .no) else .st
        | _ => .st) else .st
    | some false => .ex n d ρ1
    | none => .st
  | r => r
theorem ds_try (i : Nat) {x n : Str} {c : Value} {body suite : List Stmt} {b₀ : Stmt} {np pos pos' : Pos} {cat : Nat → Option Bool} {f g : Fs} (hs : X.stack = X.env :: X.outer) (hf : X.env.frame = some X.env.locals) (hN : X.N.Nodup) (hc : Names X x c) (tk : Takes X W)
    (hcat : ∀ n b, cat n = some b → PySem.W.exmOne X.K (.ref (T.cls n)) c = some b)
    (hb : ∀ (W : WX) (pn : List (Addr × Obj)) (xe : Value → Shared → Prop), Takes (X.tr pn xe) W → PassesOwn (model X.prog X.w) X.A X.env xe → DSs (X.tr pn xe) T ξ W body f)
    (hsu : ∀ (a : Addr) (oe : Obj) (cls : Value) (d : Option Addr) (pn : List (Addr × Obj)), Zc cls d oe → (∃ vs, oe.data = .fields vs) → DSs (X.suite a ((a, oe) :: pn)) T (some (a, cls, d)) W0 (b₀ :: suite) g)
    (hi : X.N[i]? = some n := by rfl) (hln : X.env.kindOf n = some .local := by rfl) :
    DS X T ξ W (.Try body [.ExceptHandler (some (.Name x np)) (some n) (b₀ :: suite) pos'] [] [] pos) (fTry i cat f g) := by
  refine (ps_try_as (tb := fun W => tDS X T ξ W f) (ts := fun a cls d => tDS X T (some (a, cls, d)) W0 g) (Wout := W) hs hf hN hi hln hc tk hb hsu).to fun E σ H ⟨ρ, Z, F, s, h⟩ => ⟨ρ, Z, F, s, ?_⟩
  unfold fTry at h
  cases ef : f ρ with
  | nx ρ1 => rw [ef] at h; exact h
  | bk ρ1 => rw [ef] at h; exact h
  | ct ρ1 => rw [ef] at h; exact h
  | rt sl ρ1 => rw [ef] at h; exact h
  | st => rw [ef] at h; exact h
  | ex n d ρ1 =>
    rw [ef] at h
    simp only at h
    intro v σ1 H1 Z1 F1 da e1 s1 rv hd hz
    cases ec : cat n with
    | none => simp only [ec] at h; exact h.elim
    | some b =>
      refine ⟨b, hcat n b ec, fun hb a na => ?_, fun hb => ?_⟩
      · subst hb
        simp only [ec] at h
        by_cases c : i < ρ1.length ∧ ρ1.all Sl.nex = true
        · rw [if_pos c] at h
          have s2 := (s1.toXi (ξ' := some (a, .ref (T.cls n), some da)) c.2).put (i := i) (sl := .exc n d) (v := .ref a) (P := Non) c.1 ⟨⟨a, v, da, rfl, rfl, hd, hz, rv⟩, fun _ z => z⟩ (fun _ z => z.elim) fun _ z => z.elim
          have e12 : Ext H Z (own F) H1 Z1 (own (fset F1 i Non)) := e1.sub fun a z => (own_fset z).elim id fun z => z.elim
          refine ⟨_, Z1, _, s2, ?_⟩
          have back : ∀ {ρ2 : Ro} {σ' : L2.St} {H' : Hp} {Z' : Addr → Prop} {F' : Nat → Addr → Prop}, (ρ2.set i .no).all Sl.nex = true → Sta X.K X.mg T (some (a, .ref (T.cls n), some da)) H' Z' F' σ' ρ2 → Sta X.K X.mg T ξ H' Z' (wipeF F' [i]) (σ'.set i none) (ρ2.set i .no) := fun n s' => (s'.wiped [i]).toXi n
          cases eg : g (ρ1.set i (.exc n d)) with
          | nx ρ2 =>
            simp only [eg] at h
            by_cases c2 : (ρ2.set i .no).all Sl.nex = true
            · rw [if_pos c2] at h
              exact fun σ' H' Z' F' e' s' => h _ H' Z' _ ((e12.trans e').trans (ext_wipe [i])) (back c2 s')
            · rw [if_neg c2] at h; exact h.elim
          | bk ρ2 =>
            simp only [eg] at h
            by_cases c2 : (ρ2.set i .no).all Sl.nex = true
            · rw [if_pos c2] at h
              exact fun σ' H' Z' F' e' s' => h _ H' Z' _ ((e12.trans e').trans (ext_wipe [i])) (back c2 s')
            · rw [if_neg c2] at h; exact h.elim
          | ct ρ2 =>
            simp only [eg] at h
            by_cases c2 : (ρ2.set i .no).all Sl.nex = true
            · rw [if_pos c2] at h
              exact fun σ' H' Z' F' e' s' => h _ H' Z' _ ((e12.trans e').trans (ext_wipe [i])) (back c2 s')
            · rw [if_neg c2] at h; exact h.elim
          | rt sl ρ2 =>
            simp only [eg] at h
            by_cases c2 : (ρ2.set i .no).all Sl.nex = true
            · rw [if_pos c2] at h
              exact fun v' σ' H' Z' F' P e' s' rs np => h v' _ H' Z' (wipeF F' [i]) P ((e12.trans e').sub fun a z => z.imp own_wipeF id) (back c2 s') rs fun a q => ⟨fun z => (np a q).1 (own_wipeF z), (np a q).2⟩
            · rw [if_neg c2] at h; exact h.elim
          | ex _ _ _ => simp only [eg] at h; exact h.elim
          | st => simp only [eg] at h; exact h.elim
        · rw [if_neg c] at h; exact h.elim
      · subst hb
        simp only [ec] at h
        exact h v σ1 H1 Z1 F1 da e1 s1 rv hd hz
/-- e.f in the suite -/
@[simp] def fXf (i n : Nat) : Fr D := fun ρ => match ρ.getD i .no with
  | .exc m d => if m = n then .ok d ρ else .st
  | _ => .st
theorem de_xf (i n : Nat) {a : Addr} {oe : Obj} {cls : Value} {d : Option Addr} {pn : List (Addr × Obj)} {x : Str} {p1 pos : Pos} (Tx : XfC X.K (T.cls n)) (hno : PySem.W.findIn X.K (.ref (T.cls n)) (T.fld n) = some none) (hz : Zc cls d oe) (hf : ∃ vs, oe.data = .fields vs)
    (hN : X.N[i]? = some x := by rfl) (hv : Vis X.env.scope x := by first | exact Or.inl rfl | exact Or.inr (Or.inl rfl) | exact Or.inr (Or.inr rfl)) (hd : (x == ("__debug__" : Str)) = false := by decide) (hcd : (x == ("__classdict__" : Str)) = false := by decide)
    (hb : attributeBase (.Name x p1) (T.fld n) X.env (eval (.Name x p1) X.env) = eval (.Name x p1) X.env := by rfl) :
    DE (X.suite a ((a, oe) :: pn)) T (some (a, cls, d)) W (.Attribute (.Name x p1) (T.fld n) pos) (fXf i n) := by
  refine (pe_xf Tx hno hz hf (pe_var (X := X.suite a ((a, oe) :: pn)) (i := i) hN hv hd hcd) hb).to fun σ H Q ⟨ρ, Z, F, s, h⟩ => ?_
  have r := s.rep i
  unfold fXf at h
  cases e : ρ.getD i .no with
  | exc m dd =>
    rw [e] at r
    simp only [e] at h
    by_cases c : m = n
    · subst c
      rw [if_pos rfl] at h
      obtain ⟨⟨a', v, da, ev, ex, hda, zda, rv⟩, _⟩ := r
      cases ex
      exact ⟨.ref a, getD_some ev, rfl, rfl, da, _, v, rfl, hda, by simp [List.lookup], h.here s v rv⟩
    · rw [if_neg c] at h; exact h.elim
  | _ => simp only [e] at h; exact h.elim

/-! ### 37. repr -/
def pyOk : PyData → Bool
  | .none => true
  | .bool _ => true
  | .int i => decide (i.natAbs.log2 < 1920)
  | .str x => decide ((reprText x).length ≤ 100000)
  | .dict _ => false
  | d => d.showable && !d.hasDict && decide (d.depth ≤ 60) && decide (d.shown.length ≤ 100000)
theorem cr_repr (gu : X.A.guards = some []) (hu : X.A.units + 64 < cLine) : CallR X (.builtin "repr") (fun xs H Q => ∃ v d, xs = [v] ∧ Dp X.K H v d ∧ pyOk d = true ∧ Q (.str d.shown) H) := by
  intro pins s σ H xs us Q I r h
  obtain ⟨v, d, rfl, hd, ok, q⟩ := h
  obtain ⟨u, rfl, ru⟩ := r.one
  have far : ∀ {a : Addr}, u = .ref a → (d.showable && !d.hasDict && decide (d.depth ≤ 60) && decide (d.shown.length ≤ 100000)) = true → wpAny (model X.prog X.w) X.A (call (.builtin "repr") [u]) (EP X pins σ Q) X.xe s := fun {a} eu ok => by
    simp only [Bool.and_eq_true, Bool.not_eq_true', decide_eq_true_eq] at ok
    obtain ⟨⟨⟨o1, o2⟩, o3⟩, o4⟩ := ok
    obtain ⟨as, rd⟩ := Dp.reads I d v u hd ru
    subst eu
    refine repr_of_reads' rd o1 (fun z => by rw [o2] at z; cases z) gu (by omega) (fun _ _ e => e) (fun h' u' tk hk => ?_) (by rw [sizeLine_eq]; omega)
    exact ⟨.str d.shown, H, I.kept (t' := tk) hk, ⟨u', rfl⟩, q⟩
  cases d with
  | none =>
    cases hd
    cases (show u = Value.none from ru)
    exact PySem.P.repr_of_none ⟨.str _, H, I.tok _, ⟨_, rfl⟩, q⟩
  | bool b =>
    cases hd
    cases (show u = Value.bool b from ru)
    refine PySem.P.repr_of_bool ⟨.str _, H, I.tok _, ⟨_, rfl⟩, ?_⟩
    cases b <;> exact q
  | int i =>
    cases hd
    obtain ⟨t, rfl⟩ := ru
    exact PySem.P.repr_of_int (of_decide_eq_true ok) ⟨.str _, H, I.tok _, ⟨_, rfl⟩, q⟩
  | str x =>
    cases hd
    obtain ⟨t, rfl⟩ := ru
    have ok : (reprText x).length ≤ 100000 := of_decide_eq_true ok
    exact PySem.P.repr_of_str ⟨.str _, H, I.tok _, ⟨_, rfl⟩, q⟩ (by rw [sizeLine_eq]; omega)
  | list ds =>
    cases hd
    cases (show u = Value.ref _ from ru)
    exact far rfl ok
  | tuple ds =>
    cases hd
    cases (show u = Value.ref _ from ru)
    exact far rfl ok
  | dict kvs => cases ok
theorem bt_repr : bootBuiltins "repr" = some (.builtin "repr") := by decide +kernel
@[simp] def fRepr (f : Fr Hd) : Fr D := fun ρ => (f ρ).bind fun h ρ' => match h.look ρ' with
  | some d => if d.pl && pyOk d.py then .ok (.str d.py.shown) ρ' else .st
  | none => .st
theorem de_repr {a : Expr} {f : Fr Hd} {p pos : Pos} (gu : X.A.guards = some []) (hu : X.A.units + 64 < cLine) (hg : Gl X "repr") (hm : X.mg "repr" = none) (ha : DB X T ξ W a f) (he : starEach [a] X.env = (false, eval a X.env) :: starEach [] X.env := by rfl) : DE X T ξ W (.Call (.Name "repr" p) [a] [] pos) (fRepr f) := by
  refine (pe_callB (cr_repr gu hu) hg hm bt_repr (pa_cons ha pa_nil he) (by decide) (by decide) he).to fun σ H Q ⟨ρ, Z, F, s, h⟩ => ⟨ρ, Z, F, s, (Pst.bind h).imp fun hd ρ' H' Z' F' _ s' k v rv => ?_⟩
  cases l : hd.look ρ' with
  | none => simp only [l] at k; exact k.elim
  | some d =>
    simp only [l] at k
    by_cases c : (d.pl && pyOk d.py) = true
    · rw [if_pos c] at k
      simp only [Bool.and_eq_true] at c
      exact ⟨v, d.py, rfl, Rp.dp d v c.1 (s'.look rv l), c.2, k.here s' _ rfl⟩
    · rw [if_neg c] at k; exact k.elim
end
end Dt
namespace Dt
open PySem PySem.Spec PyProof.Rows L2
section
variable {X : Cx} {T : Tab} {ξ : Xi} {W : WX} {σ σ' : L2.St} {ρ : Ro} {H H' : Hp} {Z Z' : Z1} {F : F1}

/-! ### 38. the draws' state: m['cells'], m['at'], m['left'] -/
inductive Fld where
  | cells
  | left
deriving DecidableEq
def Fld.nm : Fld → Str
  | .cells => "cells"
  | .left => "left"
@[simp] def Fld.of (m : Dr) : Fld → List Int
  | .cells => m.1
  | .left => m.2.2
def Fld.pick (c l : Addr) : Fld → Addr
  | .cells => c
  | .left => l
theorem dr_at {p : Addr} {m : Dr} {o : Option V} {P : Z1} (r : RpS X.K X.mg T ξ H Z (.ofDr p m) o P) : o = some (.ref p) ∧ ∃ c l, H p = some (.dK (drKv c m.2.1 l)) ∧ H c = some (.lst (m.1.map V.int)) ∧ H l = some (.lst (m.2.2.map V.int)) ∧ c ≠ l ∧ ∀ a, P a ↔ a = p ∨ a = c ∨ a = l := r
theorem dr_val {c l : Addr} {n : Int} (k : Fld) : valV (drKv c n l) (Sum.inr k.nm) = some (.ref (k.pick c l)) := by cases k <;> rfl
theorem dr_valAt {c l : Addr} {n : Int} : valV (drKv c n l) (Sum.inr ("at" : Str)) = some (.int n) := rfl
theorem dr_fld {p : Addr} {m : Dr} {o : Option V} {P : Z1} (k : Fld) (r : RpS X.K X.mg T ξ H Z (.ofDr p m) o P) : ∃ a, DGet H p (.str k.nm) (some (.ref a)) ∧ H a = some (.lst ((k.of m).map V.int)) := by
  obtain ⟨_, c, l, hp, hc, hl, _⟩ := dr_at r
  refine ⟨k.pick c l, ?_, ?_⟩
  · have := DGet.k (k := (.inr k.nm : Key)) hp
    rw [dr_val] at this
    exact this
  · cases k
    · exact hc
    · exact hl
theorem ints_shaped (ns : List Int) : SeqAt.shaped (.list (ns.map PyData.int)) = true := by
  have h1 : PyData.canLayAll0 (ns.map PyData.int) = true := by
    induction ns with
    | nil => rfl
    | cons n ns ih => simpa [PyData.canLayAll0, PyData.canLay0] using ih
  have h2 : PyData.depthAll (ns.map PyData.int) = 0 := by
    induction ns with
    | nil => rfl
    | cons n ns ih =>
      simp only [List.map_cons, PyData.depthAll, PyData.depth]
      rw [ih (by simpa [PyData.canLayAll0, PyData.canLay0] using h1)]
      rfl
  unfold SeqAt.shaped
  simp only [PyData.canLay0, PyData.depth, h1, h2]
  rfl
theorem ints_dpA {K : Frag} : ∀ ns : List Int, DpAll K H (ns.map V.int) (ns.map PyData.int)
  | [] => .nil
  | n :: ns => .cons (.int n) (ints_dpA ns)
theorem nosl {j : Nat} {x : Str} {pos : Pos} : NoSl (.Constant (.str x) j pos) := by intro _ _; rfl
section
variable {x : Str} {p1 p2 p3 p4 pos : Pos} {j : Nat} {b : Expr} {g : Fr D}
/-- m['at'] -/
@[simp] def fDrAt (i : Nat) : Fr D := fun ρ => match isDr (ρ.getD i .no) with
  | some (_, m) => .ok (.int m.2.1) ρ
  | none => .st
theorem pe_drF (i : Nat) (hu : X.A.units + 64 < cLine) {k : Str} (hN : X.N[i]? = some x) (hv : Vis X.env.scope x) (hd : (x == ("__debug__" : Str)) = false) (hcd : (x == ("__classdict__" : Str)) = false) : PE X (.Subscript (.Name x p1) (.Constant (.str k) j p2) p3) (tDGet (tVar i) (tC (.str k))) := pe_dget (by omega) (pe_var hN hv hd hcd) pe_str nosl
theorem de_drAt (i : Nat) (hu : X.A.units + 64 < cLine) (hN : X.N[i]? = some x := by rfl) (hv : Vis X.env.scope x := by first | exact Or.inl rfl | exact Or.inr (Or.inl rfl) | exact Or.inr (Or.inr rfl)) (hd : (x == ("__debug__" : Str)) = false := by decide) (hcd : (x == ("__classdict__" : Str)) = false := by decide) :
    DE X T ξ W (.Subscript (.Name x p1) (.Constant (.str "at") j p2) p3) (fDrAt i) := by
  refine (pe_drF i hu hN hv hd hcd).to fun σ H Q ⟨ρ, Z, F, s, h⟩ => ?_
  have r := s.rep i
  unfold fDrAt at h
  cases e : isDr (ρ.getD i .no) with
  | none => simp only [e] at h; exact h.elim
  | some q =>
    obtain ⟨p, m⟩ := q
    simp only [e] at h
    rw [isDr_some e] at r
    obtain ⟨ep, c, l, hp, _⟩ := dr_at r
    refine ⟨.ref p, getD_some ep, p, .int m.2.1, rfl, ?_, h.here s _ rfl⟩
    have := DGet.k (k := (.inr ("at" : Str) : Key)) hp
    rw [dr_valAt] at this
    exact this
/-- m[k] != [] -/
@[simp] def fDrNe (i : Nat) (k : Fld) : Fr Bool := fun ρ => match isDr (ρ.getD i .no) with
  | some (_, m) => .ok (!(k.of m).isEmpty) ρ
  | none => .st
theorem dt_drNe (i : Nat) (k : Fld) (hu : X.A.units + 64 < cLine) (hN : X.N[i]? = some x := by rfl) (hv : Vis X.env.scope x := by first | exact Or.inl rfl | exact Or.inr (Or.inl rfl) | exact Or.inr (Or.inr rfl)) (hd : (x == ("__debug__" : Str)) = false := by decide) (hcd : (x == ("__classdict__" : Str)) = false := by decide) :
    DT X T ξ W (.Compare (.Subscript (.Name x p1) (.Constant (.str k.nm) j p2) p3) [.NotEq] [.List [] p4] pos) (fDrNe i k) := by
  refine (pt_cmpR (op_neD hu) (pe_drF i hu hN hv hd hcd) (pe_lst pa_nil) (nomark _)).to fun σ H Q ⟨ρ, Z, F, s, h⟩ => ?_
  have r := s.rep i
  unfold fDrNe at h
  cases e : isDr (ρ.getD i .no) with
  | none => simp only [e] at h; exact h.elim
  | some q =>
    obtain ⟨p, m⟩ := q
    simp only [e] at h
    rw [isDr_some e] at r
    obtain ⟨ep, _⟩ := dr_at r
    obtain ⟨a, ka, ha⟩ := dr_fld k r
    refine ⟨.ref p, getD_some ep, p, .ref a, rfl, ka, by decide, fun q hq => ?_⟩
    obtain ⟨s2, e2⟩ : Sta X.K X.mg T ξ (upd H q (.lst [])) (fun a => Z a ∨ a = q) F σ ρ ∧ Ext H Z (own F) (upd H q (.lst [])) (fun a => Z a ∨ a = q) (own F) := ⟨s.new hq, Ext.new' hq⟩
    have da : Dp X.K (upd H q (.lst [])) (.ref a) (.list ((k.of m).map PyData.int)) := .lst (.of ((upd_ne (ne_of_none ha hq)).trans ha)) (ints_dpA _)
    refine ⟨_, .list [], da, .lst (xs := []) (.of upd_same) .nil, ints_shaped _, rfl, !(k.of m).isEmpty, ?_, h _ _ _ e2 s2⟩
    cases k.of m <;> rfl
theorem ixN_zero (n : Nat) : ixN (n + 1) 0 = some 0 := by
  unfold ixN
  rw [if_pos (by omega), if_pos (by omega)]
  rfl
theorem atI_ints {ns : List Int} {n z : Int} (h : L2.atI ns n = some z) : L2.atI (ns.map V.int) n = some (.int z) := by
  unfold L2.atI at h ⊢
  rw [List.length_map]
  cases e : ixN ns.length n with
  | none => rw [e] at h; cases h
  | some j =>
    rw [e] at h
    have h : ns[j]? = some z := h
    show (ns.map V.int)[j]? = some (.int z)
    rw [List.getElem?_map, h]
    rfl
/-- m['left'][0] -/
@[simp] def fDrIx0 (i : Nat) : Fr D := fun ρ => match isDr (ρ.getD i .no) with
  | some (_, m) => match m.2.2 with
    | z :: _ => .ok (.int z) ρ
    | [] => .st
  | none => .st
theorem de_drIx0 (i : Nat) {jj : Nat} (hu : X.A.units + 64 < cLine) (hN : X.N[i]? = some x := by rfl) (hv : Vis X.env.scope x := by first | exact Or.inl rfl | exact Or.inr (Or.inl rfl) | exact Or.inr (Or.inr rfl)) (hd : (x == ("__debug__" : Str)) = false := by decide) (hcd : (x == ("__classdict__" : Str)) = false := by decide) :
    DE X T ξ W (.Subscript (.Subscript (.Name x p1) (.Constant (.str "left") j p2) p3) (.Constant (.int 0) jj p4) pos) (fDrIx0 i) := by
  refine (pe_ix ix_list (pe_drF i hu hN hv hd hcd) pe_int (by intro _ _; rfl)).to fun σ H Q ⟨ρ, Z, F, s, h⟩ => ?_
  have r := s.rep i
  unfold fDrIx0 at h
  cases e : isDr (ρ.getD i .no) with
  | none => simp only [e] at h; exact h.elim
  | some q =>
    obtain ⟨p, m⟩ := q
    simp only [e] at h
    rw [isDr_some e] at r
    obtain ⟨ep, _⟩ := dr_at r
    obtain ⟨a, ka, ha⟩ := dr_fld .left r
    cases em : m.2.2 with
    | nil => simp only [em] at h; exact h.elim
    | cons z zs =>
      simp only [em] at h
      refine ⟨.ref p, getD_some ep, p, .ref a, rfl, ka, a, _, 0, .int z, rfl, rfl, .of ha, ?_, h.here s _ rfl⟩
      show L2.atI (List.map V.int m.2.2) 0 = _
      rw [em]
      exact atI_ints (ns := z :: zs) (by unfold L2.atI; rw [show ixN (z :: zs).length 0 = some 0 from ixN_zero _]; rfl)
/-- m['cells'][at % len(m['cells'])] -/
@[simp] def fDrMod (i k : Nat) : Fr D := fun ρ => match isDr (ρ.getD i .no), ρ.getD k .no with
  | some (_, m), .dat (.int n) => if m.1.length = 0 then .st else (match L2.atI m.1 (n.fmod m.1.length) with
    | some z => .ok (.int z) ρ
    | none => .st)
  | _, _ => .st
theorem de_drMod (i k : Nat) {y : Str} {p5 p6 p7 p8 p9 p10 : Pos} {j2 : Nat} (hu : X.A.units + 64 < cLine) (hg : Gl X "len") (hm : X.mg "len" = none) (hN : X.N[i]? = some x := by rfl) (hN2 : X.N[k]? = some y := by rfl) (hv : Vis X.env.scope x := by first | exact Or.inl rfl | exact Or.inr (Or.inl rfl) | exact Or.inr (Or.inr rfl)) (hv2 : Vis X.env.scope y := by first | exact Or.inl rfl | exact Or.inr (Or.inl rfl) | exact Or.inr (Or.inr rfl))
    (hd : (x == ("__debug__" : Str)) = false := by decide) (hcd : (x == ("__classdict__" : Str)) = false := by decide) (hd2 : (y == ("__debug__" : Str)) = false := by decide) (hcd2 : (y == ("__classdict__" : Str)) = false := by decide)
    (he : starEach [.Subscript (.Name x p5) (.Constant (.str "cells") j2 p6) p7] X.env = (false, eval (.Subscript (.Name x p5) (.Constant (.str "cells") j2 p6) p7) X.env) :: starEach [] X.env := by rfl) :
    DE X T ξ W (.Subscript (.Subscript (.Name x p1) (.Constant (.str "cells") j p2) p3) (.BinOp (.Name y p4) .Mod (.Call (.Name "len" p8) [.Subscript (.Name x p5) (.Constant (.str "cells") j2 p6) p7] [] p9) p10) pos) (fDrMod i k) := by
  refine (pe_ix ix_list (pe_drF i hu hN hv hd hcd) (pe_op op_modN (pe_var (i := k) hN2 hv2 hd2 hcd2) (pe_callB call_len hg hm PySem.boot_len (pa_cons (pe_drF i hu hN hv hd hcd) pa_nil he) (by decide) (by decide) he)) (by intro _ _; rfl)).to fun σ H Q ⟨ρ, Z, F, s, h⟩ => ?_
  have r := s.rep i
  have rk := s.rep k
  unfold fDrMod at h
  cases e : isDr (ρ.getD i .no) with
  | none => simp only [e] at h; exact h.elim
  | some q =>
    obtain ⟨p, m⟩ := q
    cases ek : ρ.getD k .no with
    | dat d =>
      cases d with
      | int n =>
        simp only [e, ek] at h
        rw [isDr_some e] at r
        rw [ek] at rk
        obtain ⟨⟨w, ew, rw'⟩, _⟩ := rk
        cases (show w = _ from rw')
        obtain ⟨ep, _⟩ := dr_at r
        obtain ⟨a, ka, ha⟩ := dr_fld .cells r
        by_cases c : m.1.length = 0
        · rw [if_pos c] at h; exact h.elim
        · rw [if_neg c] at h
          cases ez : L2.atI m.1 (n.fmod m.1.length) with
          | none => simp only [ez] at h; exact h.elim
          | some z =>
            simp only [ez] at h
            refine ⟨.ref p, getD_some ep, p, .ref a, rfl, ka, .int n, getD_some ew, .ref p, getD_some ep, p, .ref a, rfl, ka, ?_⟩
            refine ⟨.ref a, m.1.length, rfl, .inl ⟨_, .of ha, by rw [List.length_map]; rfl⟩, n, m.1.length, rfl, rfl, by omega, ?_⟩
            exact ⟨a, _, _, .int z, rfl, rfl, .of ha, atI_ints ez, h.here s _ rfl⟩
      | _ => simp only [e, ek] at h; exact h.elim
    | _ => simp only [e, ek] at h; exact h.elim
/-- m['at'] = e -/
theorem Sta.redr (s : Sta X.K X.mg T ξ H Z F σ ρ) {i : Nat} {p : Addr} {m : Dr} (e : ρ.getD i .no = .ofDr p m) (n : Int) : ∃ c l, H p = some (.dK (drKv c m.2.1 l)) ∧ Sta X.K X.mg T ξ (upd H p (.dK (drKv c n l))) Z (fset F i (F i)) σ (ρ.set i (.ofDr p (m.1, n, m.2.2))) ∧ Ext H Z (own F) (upd H p (.dK (drKv c n l))) Z (own (fset F i (F i))) := by
  have r := s.rep i
  rw [e] at r
  obtain ⟨ep, c, l, hp, hc, hl, ne, ip⟩ := dr_at r
  have fp : F i p := (ip p).mpr (.inl rfl)
  have pc : c ≠ p := fun z => by rw [z, hp] at hc; cases hc
  have pl : l ≠ p := fun z => by rw [z, hp] at hl; cases hl
  obtain ⟨a, b⟩ := s.rew (P := Non) (P' := F i) (sl := .ofDr p (m.1, n, m.2.2)) (m := i) (H' := upd H p (.dK (drKv c n l))) (fun _ z => z.elim) (fun _ _ _ _ z => z) (lt_of_getD e (by unfold Sl.ofDr; nofun)) (fun b o hb nf _ => (upd_ne fun z => nf (by rw [z]; exact fp)).trans hb)
    ⟨ep, c, l, upd_same, (upd_ne pc).trans hc, (upd_ne pl).trans hl, ne, ip⟩ fun a q => .inl q
  exact ⟨c, l, hp, a, ⟨fun c o hc n => b.keep c o hc fun z => z.elim n id, b.zz, fun c z => (b.oo c z).imp (fun z => z.elim id fun z => z.elim) id, fun c z => (b.zo c z).imp id fun z => z.imp (fun z => z.elim id fun z => z.elim) id⟩⟩
@[simp] def fDrSet (i : Nat) (g : Fr D) : Fs := fun ρ => (g ρ).sr fun d ρ1 => match isDr (ρ1.getD i .no), d with
  | some (p, m), .int n => .nx (ρ1.set i (.ofDr p (m.1, n, m.2.2)))
  | _, _ => .st
theorem ds_drSet (i : Nat) (hu : X.A.units + 64 < cLine) (hb : DE X T ξ W b g) (hN : X.N[i]? = some x := by rfl) (hv : Vis X.env.scope x := by first | exact Or.inl rfl | exact Or.inr (Or.inl rfl) | exact Or.inr (Or.inr rfl)) (hd : (x == ("__debug__" : Str)) = false := by decide) (hcd : (x == ("__classdict__" : Str)) = false := by decide)
    (hs : swapsWith b (some (.Subscript (.Name x p1) (.Constant (.str "at") j p2) p3)) pos.line X.env = pure false := by rfl) : DS X T ξ W (.Assign [.Subscript (.Name x p1) (.Constant (.str "at") j p2) p3] b pos) (fDrSet i g) := by
  refine (ps_dput (by omega) (pe_var hN hv hd hcd) pe_str hb hs).to fun E σ H ⟨ρ, Z, F, s, h⟩ => ⟨ρ, Z, F, s, (Pst.sr h).imp fun d ρ1 H1 Z1 F1 e1 s1 k v rv => ?_⟩
  cases e : isDr (ρ1.getD i .no) with
  | none => simp only [e] at k; exact k.elim
  | some q =>
    obtain ⟨p, m⟩ := q
    cases d with
    | int n =>
      simp only [e] at k
      have e' := isDr_some e
      have r := s1.rep i
      rw [e'] at r
      obtain ⟨ep, _⟩ := dr_at r
      obtain ⟨c, l, hp, s2, e2⟩ := s1.redr e' n
      cases (show v = _ from rv)
      refine ⟨.ref p, getD_some ep, p, _, rfl, ?_, k σ _ _ _ e2 s2⟩
      have := DPut.k (k := (.inr ("at" : Str) : Key)) (v := .int n) hp (by show 3 < sizeLine; decide)
      exact this
    | _ => simp only [e] at k; exact k.elim
/-- m['left'][0] = e -/
@[simp] def fDrSet0 (i : Nat) (g : Fr D) : Fs := fun ρ => (g ρ).sr fun d ρ1 => match isDr (ρ1.getD i .no), d with
  | some (p, m), .int n => match m.2.2 with
    | _ :: zs => .nx (ρ1.set i (.ofDr p (m.1, m.2.1, n :: zs)))
    | [] => .st
  | _, _ => .st
theorem ds_drSet0 (i : Nat) {jj : Nat} (hu : X.A.units + 64 < cLine) (hb : DE X T ξ W b g) (hN : X.N[i]? = some x := by rfl) (hv : Vis X.env.scope x := by first | exact Or.inl rfl | exact Or.inr (Or.inl rfl) | exact Or.inr (Or.inr rfl)) (hd : (x == ("__debug__" : Str)) = false := by decide) (hcd : (x == ("__classdict__" : Str)) = false := by decide)
    (ha : ∀ v, assign (.Subscript (.Subscript (.Name x p1) (.Constant (.str "left") j p2) p3) (.Constant (.int 0) jj p4) pos) X.env v = (do
      let ov ← holding [v] (eval (.Subscript (.Name x p1) (.Constant (.str "left") j p2) p3) X.env)
      let iv ← holding [v, ov] (eval (.Constant (.int 0) jj p4) X.env)
      standAt pos
      holding [v, ov, iv] (setItem ov iv v)
      release [v, ov, iv] []) := by intro _; rfl) {pos2 : Pos}
    (hs : swapsWithSole [.Subscript (.Subscript (.Name x p1) (.Constant (.str "left") j p2) p3) (.Constant (.int 0) jj p4) pos] b pos2.line X.env = pure false := by rfl) (hw : swappedStores [.Subscript (.Subscript (.Name x p1) (.Constant (.str "left") j p2) p3) (.Constant (.int 0) jj p4) pos] b X.env = pure none := by rfl)
    (h1 : (assignEach [.Subscript (.Subscript (.Name x p1) (.Constant (.str "left") j p2) p3) (.Constant (.int 0) jj p4) pos] X.env).map (·.2) = [assign (.Subscript (.Subscript (.Name x p1) (.Constant (.str "left") j p2) p3) (.Constant (.int 0) jj p4) pos) X.env] := by rfl) :
    DS X T ξ W (.Assign [.Subscript (.Subscript (.Name x p1) (.Constant (.str "left") j p2) p3) (.Constant (.int 0) jj p4) pos] b pos2) (fDrSet0 i g) := by
  refine (ps_asg hb (pg_sub (pe_drF i hu hN hv hd hcd) pe_int set_list ha) hs hw h1).to fun E σ H ⟨ρ, Z, F, s, h⟩ => ⟨ρ, Z, F, s, (Pst.sr h).imp fun d ρ1 H1 Z1 F1 e1 s1 k v rv => ?_⟩
  cases e : isDr (ρ1.getD i .no) with
  | none => simp only [e] at k; exact k.elim
  | some q =>
    obtain ⟨p, m⟩ := q
    cases d with
    | int n =>
      simp only [e] at k
      have e' := isDr_some e
      have r := s1.rep i
      rw [e'] at r
      cases em : m.2.2 with
      | nil => simp only [em] at k; exact k.elim
      | cons z zs =>
        simp only [em] at k
        obtain ⟨ep, c, l, hp, hc, hl, ne, ip⟩ := dr_at r
        cases (show v = _ from rv)
        have fl : F1 i l := (ip l).mpr (.inr (.inr rfl))
        have pl : p ≠ l := fun z => by rw [← z, hp] at hl; cases hl
        have kg : DGet H1 p (.str "left") (some (.ref l)) := DGet.k (k := (.inr ("left" : Str) : Key)) hp
        obtain ⟨s2, x2⟩ := s1.rew (P := Non) (P' := F1 i) (sl := .ofDr p (m.1, m.2.1, n :: zs)) (m := i) (H' := upd H1 l (.lst ((n :: zs).map V.int))) (fun _ z => z.elim) (fun _ _ _ _ z => z) (lt_of_getD e' (by unfold Sl.ofDr; nofun)) (fun b o hb nf _ => (upd_ne fun z => nf (by rw [z]; exact fl)).trans hb)
          ⟨ep, c, l, (upd_ne pl).trans hp, (upd_ne ne).trans hc, upd_same, ne, ip⟩ fun a q => .inl q
        have x3 : Ext H1 Z1 (own F1) (upd H1 l (.lst ((n :: zs).map V.int))) Z1 (own (fset F1 i (F1 i))) := ⟨fun c o hc n => x2.keep c o hc fun z => z.elim n id, x2.zz, fun c z => (x2.oo c z).imp (fun z => z.elim id fun z => z.elim) id, fun c z => (x2.zo c z).imp id fun z => z.imp (fun z => z.elim id fun z => z.elim) id⟩
        refine ⟨.ref p, getD_some ep, p, .ref l, rfl, kg, l, _, 0, 0, rfl, rfl, hl, ?_, ?_⟩
        · rw [em]
          exact ixN_zero _
        · have := k σ _ _ _ x3 s2
          rw [em]
          exact this
    | _ => simp only [e] at k; exact k.elim
theorem cut1 (ns : List Int) : cutV (ns.map V.int) (some 1) none = (ns.drop 1).map V.int := by
  unfold cutV
  rw [HT.sIx_none, show (some (1 : Int)) = some ((1 : Nat) : Int) from rfl, HT.sIx_nat]
  cases ns with
  | nil => rfl
  | cons n ns =>
    simp
    exact List.take_of_length_le (by rw [List.length_map]; exact Nat.le_refl _)
/-- m['left'] = m['left'][1:] -/
@[simp] def fDrCut (i : Nat) : Fs := fun ρ => match isDr (ρ.getD i .no) with
  | some (p, m) => .nx (ρ.set i (.ofDr p (m.1, m.2.1, m.2.2.drop 1)))
  | none => .st
theorem ds_drCut (i : Nat) {j2 j3 : Nat} {p5 p6 p7 p8 p9 p10 : Pos} (hu : X.A.units + 64 < cLine) (hN : X.N[i]? = some x := by rfl) (hv : Vis X.env.scope x := by first | exact Or.inl rfl | exact Or.inr (Or.inl rfl) | exact Or.inr (Or.inr rfl)) (hd : (x == ("__debug__" : Str)) = false := by decide) (hcd : (x == ("__classdict__" : Str)) = false := by decide)
    (hs : swapsWith (.Subscript (.Subscript (.Name x p5) (.Constant (.str "left") j2 p6) p7) (.Slice (some (.Constant (.int 1) j3 p8)) none none p9) p10) (some (.Subscript (.Name x p1) (.Constant (.str "left") j p2) p3)) pos.line X.env = pure false := by rfl) :
    DS X T ξ W (.Assign [.Subscript (.Name x p1) (.Constant (.str "left") j p2) p3] (.Subscript (.Subscript (.Name x p5) (.Constant (.str "left") j2 p6) p7) (.Slice (some (.Constant (.int 1) j3 p8)) none none p9) p10) pos) (fDrCut i) := by
  refine (ps_dput (by omega) (pe_var hN hv hd hcd) pe_str (pe_slice sl_list (pe_drF i hu hN hv hd hcd) (po_some pe_int) po_none) hs).to fun E σ H ⟨ρ, Z, F, s, h⟩ => ?_
  have r := s.rep i
  unfold fDrCut at h
  cases e : isDr (ρ.getD i .no) with
  | none => simp only [e] at h; exact h.elim
  | some q =>
    obtain ⟨p, m⟩ := q
    simp only [e] at h
    have e' := isDr_some e
    rw [e'] at r
    obtain ⟨ep, c, l, hp, hc, hl, ne, ip⟩ := dr_at r
    have kg : DGet H p (.str "left") (some (.ref l)) := DGet.k (k := (.inr ("left" : Str) : Key)) hp
    refine ⟨.ref p, getD_some ep, p, .ref l, rfl, kg, 1, rfl, l, _, rfl, .of hl, fun l' hl' => ?_⟩
    have cut : cutV (m.2.2.map V.int) (some 1) none = (m.2.2.drop 1).map V.int := cut1 _
    rw [cut]
    have n1 : ∀ b o, H b = some o → b ≠ l' := fun b o hb => ne_of_none hb hl'
    have np := n1 p _ hp
    refine ⟨.ref p, getD_some ep, p, _, rfl, DPut.k (k := (.inr ("left" : Str) : Key)) (v := .ref l') ((upd_ne np).trans hp) (by show 3 < sizeLine; decide), ?_⟩
    have eqk : putK (drKv c m.2.1 l) (Sum.inr ("left" : Str) : Key) (V.ref l') = drKv c m.2.1 l' := rfl
    rw [eqk]
    obtain ⟨s2, x2, nz, no⟩ := own_new (o := .lst ((m.2.2.drop 1).map V.int)) s hl'
    have pc : c ≠ p := fun z => by rw [z, hp] at hc; cases hc
    have fp : F i p := (ip p).mpr (.inl rfl)
    obtain ⟨s3, x3⟩ := s2.rew (P := fun a => a = l') (P' := fun a => a = p ∨ a = c ∨ a = l') (sl := .ofDr p (m.1, m.2.1, m.2.2.drop 1)) (m := i) (H' := upd (upd H l' (.lst ((m.2.2.drop 1).map V.int))) p (.dK (drKv c m.2.1 l')))
      (fun a z => by subst z; exact ⟨no, nz⟩) (fun b o u hb z => by subst z; rw [upd_same] at hb; cases hb) (lt_of_getD e' (by unfold Sl.ofDr; nofun)) (fun b o hb nf _ => (upd_ne fun z => nf (by rw [z]; exact fp)).trans hb)
      ⟨ep, c, l', upd_same, (upd_ne pc).trans ((upd_ne (n1 c _ hc)).trans hc), (upd_ne (Ne.symm np)).trans upd_same, fun z => n1 c _ hc z, fun a => Iff.rfl⟩ fun a z => by
        rcases z with z | z | z
        · exact .inl (by rw [z]; exact fp)
        · exact .inl (by rw [z]; exact (ip c).mpr (.inr (.inl rfl)))
        · exact .inr z
    exact h σ _ _ _ (x2.trans x3) s3
end
end
end Dt
namespace Dt
open PySem PySem.Spec PyProof.Rows L2
section
variable {X : Cx} {T : Tab} {ξ : Xi} {W : WX} {σ σ' : L2.St} {ρ : Ro} {H H' : Hp} {Z Z' : Z1} {F : F1}
/-! ### 39. the draws begun -/
def bigs (ns : List Int) : List Int := ns.filter fun n => decide (10 ^ 18 ≤ n)
def begun (ns : List Int) : Dr := (ns, 0, bigs ns)
/-- the promise of _law_begun -/
def spBg (K : Frag) : Sp := fun vs H Q _ => ∃ a ns, vs = [.ref a] ∧ SqL K H a (ns.map V.int) ∧ ns.length ≤ sizeLine ∧
  ∀ p c l H', H p = none → H c = none → H l = none → p ≠ c → p ≠ l → c ≠ l → (∀ b, b ≠ p → b ≠ c → b ≠ l → H' b = H b) → H' p = some (.dK (drKv c 0 l)) → H' c = some (.lst (ns.map V.int)) → H' l = some (.lst ((bigs ns).map V.int)) → Q (.ref p) H'
theorem bigs_more {ns : List Int} {i : Nat} {z : Int} (h : ns[i]? = some z) : bigs (ns.take (i + 1)) = bigs (ns.take i) ++ (if 10 ^ 18 ≤ z then [z] else []) := by
  have e : ns.take (i + 1) = ns.take i ++ [z] := by
    rw [List.take_succ, h]
    rfl
  unfold bigs
  rw [e, List.filter_append]
  by_cases c : (10 : Int) ^ 18 ≤ z
  · rw [if_pos c, List.filter_cons_of_pos (by simpa using c)]
    rfl
  · rw [if_neg c, List.filter_cons_of_neg (by simpa using c)]
    rfl
theorem ps_begun {scope : Scope} {p1 p2 p3 p4 p5 p6 p7 p8 p9 pa pb pc pd pe pf pg ph pi pj pk pl pos : Pos} (hc : X.calm = true) (hX : X.N = (["script", "cell"] : List Str)) (ok : BlkOk X.N X.env.scope scope [("cell", 1)])
    (g1 : Gl X "list") (m1 : X.mg "list" = none) (m2 : X.mg "int" = none) (g2 : ∀ (s : Shared) (H : Hp) (C : Addr) (cl : List (Str × Addr)) (fp : List Addr), Gl (X.blk s H scope (compEnvC scope cl C X.env) fp) "int")
    (v0 : Vis X.env.scope "script") (lc : ∀ (C : Addr) (cl : List (Str × Addr)), Loc (compEnvC scope cl C X.env).scope "cell") (lf : ∀ (C : Addr) (cl : List (Str × Addr)), (compEnvC scope cl C X.env).scope.names.lookup ("cell" : Str) = some .local)
    (hs1 : starEach [.Name "script" p6] X.env = (false, eval (.Name "script" p6) X.env) :: starEach [] X.env := by rfl)
    (hs2 : ∀ (C : Addr) (cl : List (Str × Addr)), starEach [.Name "cell" pb] (compEnvC scope cl C X.env) = (false, eval (.Name "cell" pb) (compEnvC scope cl C X.env)) :: starEach [] (compEnvC scope cl C X.env) := by intro _ _; rfl)
    (hs3 : ∀ (C : Addr) (cl : List (Str × Addr)), starEach [.Name "cell" pg] (compEnvC scope cl C X.env) = (false, eval (.Name "cell" pg) (compEnvC scope cl C X.env)) :: starEach [] (compEnvC scope cl C X.env) := by intro _ _; rfl) :
    ∃ t, PSs X [.Return (some (.Dict [some (.Constant (.str "cells") 0 p1), some (.Constant (.str "at") 0 p2), some (.Constant (.str "left") 0 p3)] [.Call (.Name "list" p5) [.Name "script" p6] [] p7, .Constant (.int 0) 0 p8,
      .ListComp (.Call (.Name "int" pa) [.Name "cell" pb] [] pc) [⟨.Name "cell" pd, .Name "script" pe, [.Compare (.Call (.Name "int" pf) [.Name "cell" pg] [] ph) [.GtE] [.BinOp (.Constant (.int 10) 0 pi) .Pow (.Constant (.int 18) 0 pj) pk] p9], 0⟩] scope pl] p4)) pos] t ∧
      ∀ vs H Q E, spBg X.K vs H Q E → t { nx := fun _ H' => Q .non H', rt := Q } (L2.start X.N vs) H := by
  have nd : X.N.Nodup := by rw [hX]; decide
  have i0 : X.N[0]? = some ("script" : Str) := by rw [hX]; rfl
  have i1 : X.N[1]? = some ("cell" : Str) := by rw [hX]; rfl
  have hlc := pe_lc (pos := pl) (elt := .Call (.Name "int" pa) [.Name "cell" pb] [] pc) (ifs := [.Compare (.Call (.Name "int" pf) [.Name "cell" pg] [] ph) [.GtE] [.BinOp (.Constant (.int 10) 0 pi) .Pow (.Constant (.int 18) 0 pj) pk] p9]) hc nd (pi_list (tl := tVar 0) (pe_var (pos := pe) i0 v0 (by decide) (by decide))) ok
    (fun s H C cl fp => pg_name (X := X.blk s H scope (compEnvC scope cl C X.env) fp) (i := 1) (pos := pd) nd i1 (lc C cl) (.inr (lf C cl)))
    (fun s H C cl fp => pts_one (pt_cmpR op_ge (pe_callTy call_int1 (g2 s H C cl fp) m2 bt_int (pa_cons (pe_var (X := X.blk s H scope (compEnvC scope cl C X.env) fp) (i := 1) i1 (.inl (lf C cl)) (by decide) (by decide)) pa_nil (hs3 C cl)) (by decide) (by decide) (hs3 C cl)) (pe_op op_pow pe_int pe_int) (nomark _)))
    (fun s H C cl fp => pe_callTy call_int1 (g2 s H C cl fp) m2 bt_int (pa_cons (pe_var (X := X.blk s H scope (compEnvC scope cl C X.env) fp) (i := 1) i1 (.inl (lf C cl)) (by decide) (by decide)) pa_nil (hs2 C cl)) (by decide) (by decide) (hs2 C cl))
    (by intro _; rfl)
  refine ⟨_, pss_one (ps_ret (pe_disp (pps_cons pe_str (pe_callTy call_list_of g1 m1 boot_list' (pa_cons (pe_var i0 v0 (by decide) (by decide)) pa_nil hs1) (by decide) (by decide) hs1) (pps_cons pe_str pe_int (pps_cons pe_str hlc pps_nil))) rfl rfl nofun (by show 3 ≤ 15; decide))), ?_⟩
  intro vs H Q E ⟨a, ns, e, hq, hl, k⟩
  subst e
  rw [hX]
  intro p hp
  refine ⟨.ref a, rfl, a, ns.map V.int, rfl, .inl ?_, fun c hcn => ?_⟩
  · exact Same.seq (fun b o hb => (upd_ne (ne_of_none hb hp)).trans hb) hq
  · have cp : c ≠ p := fun z => by rw [z, upd_same] at hcn; cases hcn
    have hc0 : H c = none := by rw [upd_ne cp] at hcn; exact hcn
    generalize hH2 : upd (upd H p (.dK [])) c (.lst (ns.map V.int)) = H2
    have same2 : Same H H2 := fun b o hb => by rw [← hH2, upd_ne (ne_of_none hb hc0), upd_ne (ne_of_none hb hp)]; exact hb
    have hq2 : SqL X.K H2 a (ns.map V.int) := Same.seq same2 hq
    refine ⟨.ref a, rfl, a, rfl, ⟨_, hq2⟩, fun l hln => ?_⟩
    have lp : l ≠ p := fun z => by rw [z, ← hH2, upd_ne (Ne.symm cp), upd_same] at hln; cases hln
    have lc' : l ≠ c := fun z => by rw [z, ← hH2, upd_same] at hln; cases hln
    have hl0 : H l = none := by rw [← hH2, upd_ne lc', upd_ne lp] at hln; exact hln
    have sq : ∀ us, SqL X.K (upd H2 l (.lst us)) a (ns.map V.int) := fun us => Same.seq (fun b o hb => (upd_ne (ne_of_none hb hln)).trans hb) hq2
    refine ⟨fun i m H' => m = ns.length - i ∧ i ≤ ns.length ∧ H' = upd H2 l (.lst ((bigs (ns.take i)).map V.int)), ⟨ns.length, by simp, Nat.zero_le _, by rw [List.take_zero]; rfl⟩, ?_⟩
    rintro i m H' ⟨rfl, hi, rfl⟩
    by_cases hlt : i < ns.length
    · refine .inr ⟨⟨_, .int ns[i], sq _, by rw [List.getElem?_map, List.getElem?_eq_getElem hlt]; rfl⟩, fun H' => i + 1 ≤ ns.length ∧ H' = upd H2 l (.lst ((bigs (ns.take (i + 1))).map V.int)), fun H' ⟨g1, g2⟩ => ⟨_, by omega, rfl, g1, g2⟩, fun x H3 y3 => ?_⟩
      obtain ⟨rfl, y3⟩ := y3
      have hx : some (V.int ns[i]) = some x := by
        rw [← y3 _ (sq _), List.getElem?_map, List.getElem?_eq_getElem hlt]
        rfl
      cases hx
      have big := bigs_more (List.getElem?_eq_getElem hlt)
      refine ⟨wipe_wipe _ _ ▸ rfl, .int ns[i], rfl, .inl ⟨_, rfl, 10, 18, rfl, rfl, ⟨by decide, by decide, by decide⟩, _, _, rfl, rfl, decide (10 ^ 18 ≤ ns[i]), rfl, ?_⟩⟩
      by_cases c : (10 : Int) ^ 18 ≤ ns[i]
      · rw [decide_eq_true c]
        refine iteT ?_
        rw [if_pos c] at big
        refine ⟨.int ns[i], rfl, .inl ⟨_, rfl, (bigs (ns.take i)).map V.int, upd_same, ?_, ?_⟩⟩
        · rw [List.length_map]
          have h1 : (bigs (ns.take i)).length ≤ (ns.take i).length := List.length_filter_le _ _
          rw [List.length_take] at h1
          omega
        · refine ⟨hlt, ?_⟩
          rw [big, List.map_append]
          funext b
          by_cases e : b = l
          · subst e; rw [upd_same, upd_same]; rfl
          · rw [upd_ne e, upd_ne e, upd_ne e]
      · rw [decide_eq_false c]
        refine iteF ?_
        rw [if_neg c, List.append_nil] at big
        exact ⟨hlt, by rw [big]⟩
    · have e : i = ns.length := by omega
      subst e
      rw [List.take_length]
      refine .inl ⟨⟨_, sq _, by rw [List.length_map]; exact Nat.le_refl _⟩, ?_⟩
      refine ⟨?_, [(.inr "cells", .ref c), (.inr "at", .int 0), (.inr "left", .ref l)], rfl, by show 3 ≤ 15; decide, ?_⟩
      · rw [upd_ne (Ne.symm lp), ← hH2, upd_ne (Ne.symm cp), upd_same]
      · refine k p c l _ hp hc0 hl0 (Ne.symm cp) (Ne.symm lp) (Ne.symm lc') (fun b n1 n2 n3 => ?_) upd_same ?_ ?_
        · rw [upd_ne n1, upd_ne n3, ← hH2, upd_ne n2, upd_ne n1]
        · rw [upd_ne cp, upd_ne (Ne.symm lc'), ← hH2, upd_same]
        · rw [upd_ne lp, upd_same]
end
end Dt
namespace Dt
open PySem PySem.Spec PyProof.Rows L2
/-! ### 40. the law's def, its call -/
def spLw (K : Frag) : Sp := fun vs H Q _ => ∃ (a : Addr) (ns : List Int), vs = [.ref a] ∧ SqL K H a (ns.map V.int) ∧ ns.length ≤ 63 ∧ ∀ H', Q (.bl true) H'
/-- the slots behind m = _law_begun(script) -/
@[simp] def entL (N i : Nat) (p : Addr) (m : Dr) : Ro := (List.replicate N Sl.no).set i (.ofDr p m)
section
variable {X : Cx} {T : Tab} {ξ : Xi} {W : WX} {σ σ' : L2.St} {ρ : Ro} {H H' : Hp} {Z Z' : Z1} {F : F1}
theorem rep_no {n j : Nat} : (List.replicate n Sl.no).getD j .no = .no := by
  rw [List.getD_eq_getElem?_getD, List.getElem?_replicate]
  split <;> rfl
theorem dss_law (i : Nat) {k : Nat} {f : Addr} {fd : FuncData} {ps : List Str} {rest : List Stmt} {g : Fs} {x y : Str} {py p1 p2 p3 pos : Pos} (hN : X.N.Nodup) (Fb : FnG X.prog X.w X.K X.mg X.base k f fd ps (spBg X.K)) (hr : Room k X.A) (gu : X.A.guards = some []) (hm : X.mg "_law_begun" = some (.ref f)) (hk : PySem.W.keepIn X.K (.ref f) = true) (hb : L2.Binds X.K fd ps []) (tk : Takes X W)
    (hrest : DSs X T none W rest g) {k1 : Nat} (hL : X.N.length = k1) (hg : Gl X "_law_begun") (h0 : X.N[0]? = some x) (hv : Vis X.env.scope x) (hd : (x == ("__debug__" : Str)) = false) (hcd : (x == ("__classdict__" : Str)) = false) (hi : X.N[i]? = some y) (hx : Loc X.env.scope y)
    (hfn : X.fn y = true ∨ X.env.scope.names.lookup y = some .local) (hs : swapsWith (.Call (.Name "_law_begun" p1) [.Name x p2] [] p3) (some (.Name y py)) pos.line X.env = pure false)
    (he : starEach [.Name x p2] X.env = (false, eval (.Name x p2) X.env) :: starEach [] X.env)
    (ok : ∀ (p : Addr) (ns : List Int), ns.length ≤ 63 → ∃ ρ', g (entL k1 i p (begun ns)) = .rt (.dat (.bl true)) ρ') :
    ∃ t, PSs X (.Assign [.Name y py] (.Call (.Name "_law_begun" p1) [.Name x p2] [] p3) pos :: rest) t ∧ ∀ vs H Q E, spLw X.K vs H Q E → t { nx := fun _ H' => Q .non H', rt := Q } (L2.start X.N vs) H := by
  refine ⟨_, pss_cons (ps_set hN hi hx (pe_callG (E := WE W) Fb hr gu hg hm hk hb (passAt tk) (pa_cons (pe_var h0 hv hd hcd) pa_nil he) (by decide) he) hs hfn) hrest, ?_⟩
  intro vs H Q E ⟨a, ns, e, hq, hl, q⟩
  subst e
  refine ⟨.ref a, ?_, a, ns, rfl, hq, by rw [sizeLine_eq]; omega, fun p c l H' hp hc hl0 n1 n2 n3 _ ep ec el => ?_⟩
  · unfold L2.start
    rfl
  · obtain ⟨ρ', er⟩ := ok p ns hl
    have hlt : i < k1 := by
      rw [← hL]
      exact (List.getElem?_eq_some_iff.mp hi).1
    have hstart : (L2.start X.N [.ref a]).length = k1 := by
      unfold L2.start
      have : 0 < X.N.length := by omega
      rw [List.length_append, List.length_map, List.length_replicate, List.length_singleton]
      omega
    have S : Sta X.K X.mg T none H' Non (fset (fun _ => Non) i fun b => b = p ∨ b = c ∨ b = l) ((L2.start X.N [.ref a]).set i (some (.ref p))) (entL k1 i p (begun ns)) := by
      refine ⟨fun j => ?_, fun j j' b n h1 h2 => ?_, by unfold entL; rw [List.length_set, List.length_replicate, List.length_set, hstart], fun _ _ _ z => z, fun _ z => z.elim⟩
      · unfold entL
        rw [getD_set (by rw [List.length_replicate]; exact hlt), getD_set (by rw [hstart]; exact hlt)]
        by_cases e : j = i
        · subst e
          rw [if_pos rfl, if_pos rfl, fset_same]
          exact ⟨rfl, c, l, ep, ec, el, n3, fun b => Iff.rfl⟩
        · rw [if_neg e, rep_no, fset_ne e]
          exact fun _ z => z
      · by_cases e : j = i
        · have e' : j' ≠ i := fun z => n (e.trans z.symm)
          rw [fset_ne e'] at h2
          exact h2
        · rw [fset_ne e] at h1
          exact h1
    refine ⟨_, _, _, S, ?_⟩
    rw [er]
    intro v σ' H2 Z2 F2 P x s' rs np
    obtain ⟨⟨w, ew, rw'⟩, _⟩ := rs
    cases ew
    cases (show v = _ from rw')
    exact q H2
end
/-- the law's call, at the heap behind the top -/
theorem lawG {P : Program} {w : World} {K : Frag} {mg mb : Str → Option Value} {k : Nat} {fa a : Addr} {fd : FuncData} {x : Str} {sp : Sp} {s1 : Shared} {vs : List Value} {ns : List Int}
    (inK : K.In s1.heap) (nsG : s1.heap.Ns mainGlobals mg) (nsB : s1.heap.Ns builtinsNs mb) (bB : ∀ x : Str, x ≠ "__name__" → mb x = bootBuiltins x) (noL : s1.heap.NoLimit) (hg : s1.gens = #[])
    (ha : s1.heap.get? a = some { cls := .type "list", data := .seq vs.toArray }) (hi : IntsAre vs ns) (hl : ns.length ≤ sizeLine) (hr : Room k callerA)
    (Fl : ∀ base : Heap, K.In base → base.Ns mainGlobals mg → FnG P w K mg base k fa fd [x] sp) (bd : ∀ (s : Shared) (u : Value), BindsTo s fd ⟨[u], []⟩ [(x, u)])
    (hsp : ∀ H : Hp, Only H → SqL K H a (ns.map V.int) → sp [.ref a] H (fun v _ => v = .bl true) fun _ _ _ => False) :
    codeAny (model P w) callerA (.call (.ref fa) ⟨[.ref a], []⟩) (fun r s' => r = .ok (.ret (.bool true)) ∧ OldK s1.heap s'.heap ∧ s'.os = s1.os ∧ AllBare s'.gens) s1 := by
  have vv := vals_ints hi
  have lv := hi.length
  have main : ∀ H : Hp, Only H → SqL K H a (ns.map V.int) → HOk P w H s1.heap → (∀ b, H b ≠ none → b = a) → (H a ≠ none → K.lookup a = none) →
      codeAny (model P w) callerA (.call (.ref fa) ⟨[.ref a], []⟩) (fun r s' => r = .ok (.ret (.bool true)) ∧ OldK s1.heap s'.heap ∧ s'.os = s1.os ∧ AllBare s'.gens) s1 := by
    intro H oH sH kH aH nH
    have grd : ∀ {b : Addr} {o : Obj}, s1.heap.get? b = some o → H b = none → (hidT s1.heap H).get? b = some o := fun e n => hidT_get e n
    have off : ∀ {b : Addr} {o : Obj} {es : Array DictEntry} {ep : Nat}, s1.heap.get? b = some o → o.data = .dict es ep → H b = none := fun {b o es ep} e d => by
      cases q : H b with
      | none => rfl
      | some u =>
        obtain rfl : b = a := aH b (by rw [q]; simp)
        rw [ha] at e; cases e
        cases (show Data.seq vs.toArray _ = Data.dict es ep from d)
    have nsH : ∀ {b : Addr} {m : Str → Option Value}, s1.heap.Ns b m → (hidT s1.heap H).Ns b m := fun ⟨o, es, ep, e, d, r⟩ => ⟨o, es, ep, grd e (off e d), d, r⟩
    have kB : K.In (hidT s1.heap H) := fun b o e => grd (inK b o e) (by
      cases q : H b with
      | none => rfl
      | some u =>
        obtain rfl : b = a := aH b (by rw [q]; simp)
        rw [nH (by rw [q]; simp)] at e; cases e)
    have mB : Mod K mg (hidT s1.heap H) := ⟨kB, nsH nsG, ⟨mb, nsH nsB, bB⟩, let ⟨mc, h1, h2⟩ := noL; ⟨mc, nsH h1, h2⟩⟩
    have ev : Env0 P w K mg (hidT s1.heap H) callerA [] s1 H := ⟨rfl, mB, fun b o e => of_hidT e, Nat.le_of_eq (hidT_size _ _), trivial, fun b hb => absurd (show b ∈ ([] : List Addr) from hb) (by simp), kH, .of_eq hg⟩
    refine codeAny_mono ((Fl _ kB (nsH nsG)).run callerA [] s1 H ⟨[.ref a], []⟩ [.ref a] [.ref a] _ _ hr rfl ev (bd s1 (.ref a)) (.cons rfl .nil) (hsp H oH sH)) fun r s' h => ?_
    cases r with
    | error er =>
      obtain ⟨_, _, _, _, _, _, _, _, _, _, _, _, z⟩ := h
      exact z.elim
    | ok fl =>
      cases fl with
      | next => exact False.elim h
      | brk => exact False.elim h
      | cont => exact False.elim h
      | ret u =>
        obtain ⟨v, H', os, bare, un, kH', r', q⟩ := h
        obtain rfl : v = .bl true := q
        obtain rfl : u = Value.bool true := r'
        refine ⟨rfl, OldK.of_keep fun b o e => ?_, os, bare⟩
        cases q : H b with
        | none => exact un.keep b o e q (by intro z; exact absurd (show b ∈ ([] : List Addr) from z) (by simp)) (by simp)
        | some u =>
          rcases oH b with z | ⟨ob, xs, z⟩
          · rw [q] at z; cases z
          · obtain ⟨e1, _⟩ := kH b _ z
            obtain ⟨e2, _⟩ := kH' b _ (un.frzs b ob _ z)
            rw [e] at e1; cases e1
            exact e2
  cases hk : K.lookup a with
  | some o =>
    have e := inK a o hk
    rw [ha] at e
    cases e
    refine main (fun _ => none) (fun _ => .inl rfl) (.inr ⟨_, vs.toArray, _, hk, rfl, rfl, rfl, by rw [List.size_toArray, lv]; exact hl, by simpa using vv⟩) (fun b u z => by cases (show (none : Option HO) = some u from z)) (fun b z => absurd rfl z) fun z => absurd rfl z
  | none =>
    refine main (fun b => if b = a then some (.frz { cls := .type "list", data := .seq vs.toArray } (.lst (ns.map V.int))) else none) (fun b => ?_) (.inl (.inr ⟨{ cls := .type "list", data := .seq vs.toArray }, if_pos rfl⟩)) (fun b u z => ?_) (fun b z => ?_) fun _ => hk
    · by_cases hb : b = a
      · exact .inr ⟨_, _, if_pos hb⟩
      · exact .inl (if_neg hb)
    · by_cases hb : b = a
      · cases (if_pos hb).symm.trans z
        subst hb
        exact ⟨ha, by rw [List.length_map]; exact hl, vs, _, vv, ha⟩
      · cases (if_neg hb).symm.trans z
    · by_cases hb : b = a
      · exact hb
      · exact absurd (if_neg hb) z
/-- the goal that k_head leaves -/
theorem walkG {l : PySem.W.OpenLaw} {n k : Nat} {q : Program} {loose : List Str} {XP : (Str → Option Value) → Heap → Prop} {YP : World → Heap → Prop} {d : DefRec} {K : Params → Frag} {x : Str}
    (hn : l.most = some n) (hn2 : n ≤ 63) (hdf : d.params.defaults = []) (hr : Room k callerA) (hY : ∀ (w : World) (h : Heap), YP w h → (K w.params).In h)
    (Fl : ∀ (w : World) (mg : Str → Option Value) (fa : Addr) (h : Heap), (K w.params).In h → h.Ns mainGlobals mg → XP mg h → mg d.name = some (.ref fa) →
      ∃ fd : FuncData, (∀ (s : Shared) (u : Value), BindsTo s fd ⟨[u], []⟩ [(x, u)]) ∧ ∀ base : Heap, (K w.params).In base → base.Ns mainGlobals mg → FnG l.prog w (K w.params) mg base k fa fd [x] (spLw (K w.params))) :
    PySem.W.WalkO q loose XP YP l.row.toRowW d [] (fun f vs => PySem.call f vs) := by
  refine Att.attach_call hn hdf fun w s0 s1 mg mb fa o pm cd doc a vs ns G Y ho hd hcd hmg hobj hints hlen hg => ?_
  have kx := hY w _ Y
  obtain ⟨fd, bd, hF⟩ := Fl w mg fa _ kx G.T.g G.X hmg
  exact lawG kx G.T.g G.T.b G.T.builtins G.T.nolimit hg hobj hints (Nat.le_trans (Nat.le_trans hlen hn2) (by rw [sizeLine_eq]; omega)) hr hF bd fun H oH sH => ⟨a, ns, rfl, sH, Nat.le_trans hlen hn2, fun _ => rfl⟩
end Dt
namespace Dt
open PySem PySem.Spec PyProof.Rows L2
section
variable {X : Cx} {T : Tab} {ξ : Xi} {W : WX} {σ σ' : L2.St} {ρ : Ro} {H H' : Hp} {Z Z' : Z1} {F : F1}

/-! ### 41. words for printed proofs -/
/-- a def that keeps a promise, as the module holds it -/
def FnAt (P : Program) (w : World) (K : Frag) (mg : Str → Option Value) (base : Heap) (x : Str) (k : Nat) (ps : List Str) (sp : Sp) : Prop :=
  ∃ (a : Addr) (fd : FuncData), mg x = some (.ref a) ∧ PySem.W.keepIn K (.ref a) = true ∧ (∃ oc od osl, K.lookup a = some ⟨oc, od, .func fd, osl⟩) ∧ L2.Binds K fd ps [] ∧ FnG P w K mg base k a fd ps sp
theorem _root_.L2.Fun.at_ {K : Frag} {x q : Str} {st : Stmt} {a : Addr} {fd : FuncData} (F : Fun K x q st a fd) : ∃ oc od osl, K.lookup a = some ⟨oc, od, .func fd, osl⟩ :=
  let ⟨oc, od, _, _, _, _, _, _, osl, _, l, _⟩ := F.ex
  ⟨oc, od, osl, l⟩
/-- a def of the text as it stands behind the top -/
def FnTx (K : Frag) (mg : Str → Option Value) (x : Str) (st : Stmt) (ps : List Str) : Prop :=
  ∃ (a : Addr) (fd : FuncData), mg x = some (.ref a) ∧ Fun K x x st a fd ∧ L2.Binds K fd ps []
/-- a constant of the module -/
def GlD (K : Frag) (mg : Str → Option Value) (x : Str) (d : D) : Prop := ∃ (v : V) (u : Value), mg x = some u ∧ RelV v u ∧ ∀ H Z, Rp K mg H Z d v
def Len {α : Type} (g : Fr (List α)) (n : Nat) : Prop := ∀ ρ ds ρ', g ρ = .ok ds ρ' → ds.length = n
theorem len_nil : Len fNil 0 := fun ρ ds ρ' h => by cases h; rfl
theorem len_cons {f : Fr D} {g : Fr (List D)} {n : Nat} (h : Len g n) : Len (fCons f g) (n + 1) := fun ρ ds ρ' e => by
  unfold fCons at e
  cases ef : f ρ with
  | ok d ρ1 =>
    rw [ef] at e
    simp only [Res.bind] at e
    cases eg : g ρ1 with
    | ok es ρ2 =>
      rw [eg] at e
      cases e
      rw [List.length_cons, h _ _ _ eg]
    | ex _ _ _ => rw [eg] at e; cases e
    | st => rw [eg] at e; cases e
  | ex _ _ _ => rw [ef] at e; cases e
  | st => rw [ef] at e; cases e
section
variable {P : Program} {w : World} {K : Frag} {mg : Str → Option Value} {base : Heap} {k : Nat} {x : Str} {st : Stmt} {N ps : List Str} {f : Fs}
theorem atD (Fu : FnTx K mg x st ps) (S : FnScope N ps (defScope st)) (hn : ps.length ≤ N.length)
    (hb : ∀ (a : Addr) (cdv : Value) (A : Around) (outer : List Env) (s : Shared) (H : Hp) (E : XK), Room k (A.deeper (envOfC x (defScope st) s.heap.objs.size a cdv)) → A.guards = some [] →
      DSs (cxOf (L2.CX P w) P w K mg base N x (defScope st) a cdv A outer s H E) T none (fun cls d _ H => E cls d H) (defBody st) f) : FnAt P w K mg base x (k + 1) ps (spD K mg T (runD N.length f) ps.length) := by
  obtain ⟨a, fd, hm, Fu, bd⟩ := Fu
  exact ⟨a, fd, hm, Fu.kp, Fu.at_, bd, fnD_of Fu S hn (hb a)⟩
theorem atM (Fu : FnTx K mg x st ps) (S : FnScope N ps (defScope st)) (hn : ps.length ≤ N.length)
    (hb : ∀ (a : Addr) (cdv : Value) (A : Around) (outer : List Env) (s : Shared) (H : Hp) (E : XK), Room k (A.deeper (envOfC x (defScope st) s.heap.objs.size a cdv)) → A.guards = some [] →
      DSs (cxOf (L2.CX P w) P w K mg base N x (defScope st) a cdv A outer s H E) T none (fun cls d _ H => E cls d H) (defBody st) f) : FnAt P w K mg base x (k + 1) ps (spM K mg T (runM N.length f) ps.length) := by
  obtain ⟨a, fd, hm, Fu, bd⟩ := Fu
  exact ⟨a, fd, hm, Fu.kp, Fu.at_, bd, fnM_of Fu S hn (hb a)⟩
theorem at0 (Fu : FnTx K mg x st ps) (S : FnScope N ps (defScope st)) : FnAt P w K mg base x 0 ps (spD K mg T (fun _ => .st) ps.length) := by
  obtain ⟨a, fd, hm, Fu, bd⟩ := Fu
  exact ⟨a, fd, hm, Fu.kp, Fu.at_, bd, ⟨fun vs H Q E ⟨_, _, _, _, _, z⟩ => z.elim, fun _ _ _ _ _ _ _ _ _ _ _ _ _ _ ⟨_, _, _, _, _, z⟩ => z.elim⟩⟩
theorem FnAt.up {j k : Nat} {sp : Sp} (F : FnAt P w K mg base x j ps sp) (h : j ≤ k) : FnAt P w K mg base x k ps sp :=
  let ⟨a, fd, h1, h2, h0, h3, h4⟩ := F
  ⟨a, fd, h1, h2, h0, h3, h4.up h⟩
end
/-- how a call with keywords binds -/
def KBindsX (K : Frag) (mg : Str → Option Value) (x : Str) (ks ps : List Str) (idx : List Nat) (n m : Nat) : Prop := ∀ (f : Addr) (fd : FuncData), mg x = some (.ref f) → (∃ oc od osl, K.lookup f = some ⟨oc, od, .func fd, osl⟩) → KBinds K fd ps ks (sel idx n m) (sel idx n m)
theorem KBindsX.mk {K : Frag} {mg : Str → Option Value} {x : Str} {st : Stmt} {ks ps : List Str} {idx : List Nat} {n m : Nat} (t : FnTx K mg x st ps) (hp : ps ≠ [])
    (h : ∀ (kV doc pm : Value) (an : Option Addr) (cdv ct : Value) (us ws : List Value), us.length = n → ws.length = m → bindArgs (PySem.W.fnOf x x (defArgs st) (defBody st) (defScope st) .none kV doc pm an cdv ct) ⟨us, ks.zip ws⟩ = pure (ps.zip (idx.filterMap fun i => (us ++ ws)[i]?))) : KBindsX K mg x ks ps idx n m := by
  intro f fd hm ⟨oc, od, osl, hl⟩
  obtain ⟨a, fd', hm', Fu, _⟩ := t
  obtain ⟨oc', od', kV, doc, pm, an, cdv, ct, osl', rfl, kl, _⟩ := Fu.ex
  rw [hm] at hm'
  cases hm'
  rw [hl] at kl
  cases kl
  exact kb_sel hp (h kV doc pm an cdv ct)
theorem len_sel {idx : List Nat} {b n : Nat} {gk : Fr (List D)} (hi : idx.filterMap (fun i => (List.range b)[i]?) = idx) (hn : idx.length = n) (h : Len gk b) : Len (fArgK idx 0 b fNil gk) n := fun ρ ds ρ' e => by
  unfold fArgK fNil at e
  simp only [Res.bind] at e
  cases eg : gk ρ with
  | ok es ρ2 =>
    rw [eg] at e
    cases e
    have hl := h _ _ _ eg
    unfold sel
    rw [if_pos ⟨rfl, hl⟩, List.nil_append]
    have key : ∀ l : List Nat, (∀ i ∈ l, i < b) → (l.filterMap fun i => es[i]?).length = l.length := by
      intro l
      induction l with
      | nil => intro _; rfl
      | cons i l ih =>
        intro hb
        rw [List.filterMap_cons, List.getElem?_eq_getElem (show i < es.length by rw [hl]; exact hb i List.mem_cons_self)]
        simp only [List.length_cons]
        rw [ih fun j hj => hb j (List.mem_cons_of_mem _ hj)]
    rw [key idx fun i hx => ?_, hn]
    have : i ∈ idx.filterMap (fun i => (List.range b)[i]?) := by rw [hi]; exact hx
    obtain ⟨j, _, hj⟩ := List.mem_filterMap.mp this
    obtain ⟨h1, h2⟩ := List.getElem?_eq_some_iff.mp hj
    rw [List.getElem_range] at h2
    rw [List.length_range] at h1
    omega
  | ex _ _ _ => rw [eg] at e; cases e
  | st => rw [eg] at e; cases e
theorem _root_.L2.Room.u65 {k : Nat} {A : Around} (hr : Room k A) : A.units + 65 < cLine := by have := hr.un; omega
section
variable {φ : List D → Rd} {n k k' : Nat} {ps ks : List Str} {x : Str} {p pos : Pos} {e : Expr} {es : List Expr} {kws : List Keyword} {g gk : Fr (List D)} {idx : List Nat} {b : Nat}
theorem cv_call (Fo : FnAt X.prog X.w X.K X.mg X.base x k ps (spD X.K X.mg T φ n)) (hr : Room k' X.A) (gu : X.A.guards = some []) (tk : Takes X W) (ha : DA X T ξ W (e :: es) g) (hn : Len g n) (le : k ≤ k' := by decide) (hg : Gl X x := by rfl)
    (hdb : (x == ("__debug__" : Str)) = false := by decide) (he : starEach (e :: es) X.env = (false, eval e X.env) :: starEach es X.env := by rfl) (hpl : (backTo pos (starEach es X.env)).any (·.1) = false := by rfl) :
    DV X T ξ W (.Call (.Name x p) (e :: es) [] pos) (fCallD φ g) :=
  let ⟨a, fd, hm, hk, _, hb, F⟩ := Fo
  dv_call F (hr.mono le) gu hg hm hk hb tk ha hn hdb he hpl
theorem ce_call (Fo : FnAt X.prog X.w X.K X.mg X.base x k ps (spD X.K X.mg T φ n)) (hr : Room k' X.A) (gu : X.A.guards = some []) (tk : Takes X W) (ha : DA X T ξ W (e :: es) g) (hn : Len g n) (le : k ≤ k' := by decide) (hg : Gl X x := by rfl)
    (hdb : (x == ("__debug__" : Str)) = false := by decide) (he : starEach (e :: es) X.env = (false, eval e X.env) :: starEach es X.env := by rfl) (hpl : (backTo pos (starEach es X.env)).any (·.1) = false := by rfl) :
    DE X T ξ W (.Call (.Name x p) (e :: es) [] pos) (fFz (fCallD φ g)) := de_dv (cv_call Fo hr gu tk ha hn le hg hdb he hpl)
/-- f(k = v, ..), the binding told -/
theorem ce_callK0 (Fo : FnAt X.prog X.w X.K X.mg X.base x k ps (spD X.K X.mg T φ n)) (hr : Room k' X.A) (gu : X.A.guards = some []) (tk : Takes X W) (hkb : KBindsX X.K X.mg x ks ps idx 0 b) (hkw : DK X T ξ W kws gk) (hn : Len (fArgK idx 0 b fNil gk) n) (le : k ≤ k' := by decide) (hg : Gl X x := by rfl)
    (hall : (backToKw pos (keywordEach kws X.env)).all (·.1.isSome) = true := by rfl) (hks : (backToKw pos (keywordEach kws X.env)).filterMap (·.1) = ks := by rfl)
    (hdb : (x == ("__debug__" : Str)) = false := by decide) (hpl : ((backTo pos (starEach [] X.env)).any (·.1) || (backToKw pos (keywordEach kws X.env)).any (·.1.isNone)) = false := by rfl) :
    DE X T ξ W (.Call (.Name x p) [] kws pos) (fFz (fCallD φ (fArgK idx 0 b fNil gk))) :=
  let ⟨a, fd, hm, hk, hl, hb, F⟩ := Fo
  de_dv (dv_callK0 F (hr.mono le) gu hg hm hk (hkb a fd hm hl) tk hkw hn hall hks hdb hpl)
end
section
variable {φ : Addr → Dr → List D → Rm} {n k k' : Nat} {ps : List Str} {x y : Str} {p pos py : Pos} {es : List Expr} {g : Fr (List D)}
theorem cv_callM (i : Nat) (Fo : FnAt X.prog X.w X.K X.mg X.base x k ps (spM X.K X.mg T φ (n + 1))) (hr : Room k' X.A) (gu : X.A.guards = some []) (tk : Takes X W) (ha : DA X T ξ W es g) (hn : Len g n) (le : k ≤ k' := by decide) (hg : Gl X x := by rfl)
    (hN : X.N[i]? = some y := by rfl) (hv : Vis X.env.scope y := by first | exact Or.inl rfl | exact Or.inr (Or.inl rfl) | exact Or.inr (Or.inr rfl)) (hd : (y == ("__debug__" : Str)) = false := by decide) (hcd : (y == ("__classdict__" : Str)) = false := by decide)
    (hdb : (x == ("__debug__" : Str)) = false := by decide) (he : starEach (.Name y py :: es) X.env = (false, eval (.Name y py) X.env) :: starEach es X.env := by rfl) (hpl : (backTo pos (starEach es X.env)).any (·.1) = false := by rfl) :
    DV X T ξ W (.Call (.Name x p) (.Name y py :: es) [] pos) (fCallM i φ g) :=
  let ⟨a, fd, hm, hk, _, hb, F⟩ := Fo
  dv_callM i F (hr.mono le) gu hg hm hk hb tk ha (fun ρ ds ρ' e => by rw [hn ρ ds ρ' e]) hN hv hd hcd hdb he hpl
theorem ce_callM (i : Nat) (Fo : FnAt X.prog X.w X.K X.mg X.base x k ps (spM X.K X.mg T φ (n + 1))) (hr : Room k' X.A) (gu : X.A.guards = some []) (tk : Takes X W) (ha : DA X T ξ W es g) (hn : Len g n) (le : k ≤ k' := by decide) (hg : Gl X x := by rfl)
    (hN : X.N[i]? = some y := by rfl) (hv : Vis X.env.scope y := by first | exact Or.inl rfl | exact Or.inr (Or.inl rfl) | exact Or.inr (Or.inr rfl)) (hd : (y == ("__debug__" : Str)) = false := by decide) (hcd : (y == ("__classdict__" : Str)) = false := by decide)
    (hdb : (x == ("__debug__" : Str)) = false := by decide) (he : starEach (.Name y py :: es) X.env = (false, eval (.Name y py) X.env) :: starEach es X.env := by rfl) (hpl : (backTo pos (starEach es X.env)).any (·.1) = false := by rfl) :
    DE X T ξ W (.Call (.Name x p) (.Name y py :: es) [] pos) (fFz (fCallM i φ g)) := de_dv (cv_callM i Fo hr gu tk ha hn le hg hN hv hd hcd hdb he hpl)
end
theorem ds_raiseA (n : Nat) {nm : Str} {a : Expr} {g : Fr D} {p pos pos2 : Pos} {k : Nat} (hc : X.calm = true) (Tx : ∃ fI txt, XTxt X.prog X.K (T.cls n) fI txt (T.fld n) (T.fld n)) (hv : T.fld n = "place" ∨ T.fld n = "value" ∨ T.fld n = "most") (hsup : X.mg "super" = none) (hr : Room k X.A) (hm : X.mg nm = some (.ref (T.cls n))) (tk : Takes X W) (hg : Gl X nm) (ha : DE X T ξ W a g)
    (hdb : (nm == ("__debug__" : Str)) = false := by decide) (he : starEach (a :: []) X.env = (false, eval a X.env) :: starEach [] X.env := by rfl) (hpl : (backTo pos (starEach [] X.env)).any (·.1) = false := by rfl) :
    DS X T ξ W (.Raise (some (.Call (.Name nm p) [a] [] pos)) none pos2) (fRaise n g) :=
  let ⟨_, _, Tx⟩ := Tx
  ds_raise n hc Tx hv hsup hr hm tk hg ha hdb he hpl
/-- x = [..] on one line -/
theorem ds_setI (i : Nat) {st : Stmt} {te : TE} {f : Fr Sl} (h : PS X st (tAsg te (gName i))) (imp : ∀ σ H Q, tDV X T ξ W f σ H Q → te σ H Q) : DS X T ξ W st (fSet i f) :=
  h.to fun E σ H ⟨ρ, Z, F, s, h⟩ => imp σ H _ ⟨ρ, Z, F, s, set_core h⟩
section
variable {y : Str} {py pos spos : Pos} {elt tg iter : Expr} {ifs : List Expr} {scope : Scope} {own' : List (Str × Nat)} {f : Fr (List D)} {b : D → Ro → Option Ro} {tt : Fr Bool}
theorem ds_setLc (i : Nat) {te : Fr D} {g : Fr Sl} (imp : ∀ σ H Q, tDV X T ξ W g σ H Q → tDN X T ξ W (fLc (own'.map (·.2)) f b tt te) σ H Q) (hc : X.calm = true) (hN : X.N.Nodup) (hi : DI X T ξ W tg iter f) (ok : BlkOk X.N X.env.scope scope own')
    (hg : ∀ (s : Shared) (H : Hp) (C : Addr) (cl : List (Str × Addr)) (fp : List Addr), DG (X.blk s H scope (compEnvC scope cl C X.env) fp) T ξ (own'.map (·.2)) tg b)
    (ht : ∀ (s : Shared) (H : Hp) (C : Addr) (cl : List (Str × Addr)) (fp : List Addr), PTs (X.blk s H scope (compEnvC scope cl C X.env) fp) ifs (tDT (X.blk s H scope (compEnvC scope cl C X.env) fp) T ξ W0 tt))
    (he : ∀ (s : Shared) (H : Hp) (C : Addr) (cl : List (Str × Addr)) (fp : List Addr), DE (X.blk s H scope (compEnvC scope cl C X.env) fp) T ξ W0 elt te) (hy : X.N[i]? = some y := by rfl) (hyl : X.env.scope.names.lookup y = some .local := by rfl)
    (hsw : swapsWith (.ListComp elt [⟨tg, iter, ifs, 0⟩] scope pos) (some (.Name y py)) spos.line X.env = pure true := by rfl) (hs : ∀ x, foldedSetIterable iter X.env x = pure x := by intro _; rfl) :
    DS X T ξ W (.Assign [.Name y py] (.ListComp elt [⟨tg, iter, ifs, 0⟩] scope pos) spos) (fSet i g) :=
  ds_setI i (ps_setLc (wi := tDI X T ξ W f) (g := tDG X T ξ (own'.map fun q : Str × Nat => q.2) b) (tt := tDT X T ξ W0 tt) (te := tDE X T ξ W0 te) hc hN hy hyl hsw hi ok hg ht he hs) fun σ H Q h => lc_imp (imp σ H Q h)
theorem ds_setLm (i : Nat) {te : Fr (List D)} (hc : X.calm = true) (hN : X.N.Nodup) (hi : DI X T ξ W tg iter f) (ok : BlkOk X.N X.env.scope scope own')
    (hg : ∀ (s : Shared) (H : Hp) (C : Addr) (cl : List (Str × Addr)) (fp : List Addr), DG (X.blk s H scope (compEnvC scope cl C X.env) fp) T ξ (own'.map (·.2)) tg b)
    (ht : ∀ (s : Shared) (H : Hp) (C : Addr) (cl : List (Str × Addr)) (fp : List Addr), PTs (X.blk s H scope (compEnvC scope cl C X.env) fp) ifs (tDT (X.blk s H scope (compEnvC scope cl C X.env) fp) T ξ W0 tt))
    (he : ∀ (s : Shared) (H : Hp) (C : Addr) (cl : List (Str × Addr)) (fp : List Addr), DN (X.blk s H scope (compEnvC scope cl C X.env) fp) T ξ W0 elt te) (hy : X.N[i]? = some y := by rfl) (hyl : X.env.scope.names.lookup y = some .local := by rfl)
    (hsw : swapsWith (.ListComp elt [⟨tg, iter, ifs, 0⟩] scope pos) (some (.Name y py)) spos.line X.env = pure true := by rfl) (hs : ∀ x, foldedSetIterable iter X.env x = pure x := by intro _; rfl) :
    DS X T ξ W (.Assign [.Name y py] (.ListComp elt [⟨tg, iter, ifs, 0⟩] scope pos) spos) (fSet i (fLm (own'.map (·.2)) f b tt te)) :=
  ds_setI i (ps_setLc (wi := tDI X T ξ W f) (g := tDG X T ξ (own'.map fun q : Str × Nat => q.2) b) (tt := tDT X T ξ W0 tt) (te := tDN X T ξ W0 te) hc hN hy hyl hsw hi ok hg ht he hs) fun σ H Q h => lm_imp h
end
theorem imp_own {f : Fr (List D)} : ∀ σ H Q, tDV X T ξ W (fSL f) σ H Q → tDN X T ξ W f σ H Q := fun _ _ _ h => imp_dn h
theorem imp_fz {f : Fr (List D)} : ∀ σ H Q, tDV X T ξ W (fSD (fFr f)) σ H Q → tDN X T ξ W f σ H Q := fun _ _ _ h => imp_frz (imp_de h)
theorem de_gl {x : Str} {d : D} {pos : Pos} (h : GlD X.K X.mg x d) (hg : Gl X x := by rfl) (hd : (x == ("__debug__" : Str)) = false := by decide) : DE X T ξ W (.Name x pos) (fC d) :=
  let ⟨v, u, hm, r, hr⟩ := h
  de_glob hg hm r hr hd
/-- list(range(n)), list(range(a, b)) -/
theorem rgV_rp {a b : Int} : RpL X.K X.mg H Z (rgD a (b - a).toNat) (rgV a b) := by
  unfold rgD rgV
  generalize (b - a).toNat = n
  induction (List.range n) with
  | nil => rfl
  | cons i is ih => exact ⟨_, _, rfl, rfl, ih⟩
section
variable {a b : Expr} {p1 p2 pos pos2 : Pos} {f g : Fr D}
theorem dn_listRg1 (hc : X.calm = true) (hg : Gl X "list") (hm : X.mg "list" = none) (hg2 : Gl X "range") (hm2 : X.mg "range" = none) (h : DE X T ξ W a f) (na : starEach [a] X.env = (false, eval a X.env) :: starEach [] X.env := by rfl)
    (nr : starEach [.Call (.Name "range" p2) [a] [] pos2] X.env = (false, eval (.Call (.Name "range" p2) [a] [] pos2) X.env) :: starEach [] X.env := by rfl) : DN X T ξ W (.Call (.Name "list" p1) [.Call (.Name "range" p2) [a] [] pos2] [] pos) (fRg1 f) := by
  refine (pe_listRg hc hg hm (prg_1 hg2 hm2 h na) nr).to fun σ H Q ⟨ρ, Z, F, s, h⟩ => ⟨ρ, Z, F, s, (Pst.bind h).imp fun d ρ' H' Z' F' _ s' k v rv => ?_⟩
  cases d with
  | int j =>
    cases (show v = _ from rv)
    by_cases c : -(lim : Int) ≤ j ∧ j ≤ (lim : Int)
    · simp only [if_pos c] at k
      have l : (lim : Int) = 1000000 := rfl
      refine ⟨j, rfl, ⟨by omega, by omega, by omega, by omega, by omega⟩, fun q hq => ?_⟩
      have r : RpL X.K X.mg H' Z' (rgD 0 (j - 0).toNat) (rgV 0 j) := rgV_rp
      rw [Int.sub_zero] at r
      exact k.here s' q _ _ upd_same upd_other hq r (by rw [rgD_length]; exact lim_ok (by omega))
    · simp only [if_neg c] at k
      exact k.elim
  | _ => exact k.elim
theorem dn_listRg2 (hc : X.calm = true) (hg : Gl X "list") (hm : X.mg "list" = none) (hg2 : Gl X "range") (hm2 : X.mg "range" = none) (h : DE X T ξ W a f) (h' : DE X T ξ W b g) (na : starEach [a, b] X.env = (false, eval a X.env) :: starEach [b] X.env := by rfl) (nb : starEach [b] X.env = (false, eval b X.env) :: starEach [] X.env := by rfl)
    (nr : starEach [.Call (.Name "range" p2) [a, b] [] pos2] X.env = (false, eval (.Call (.Name "range" p2) [a, b] [] pos2) X.env) :: starEach [] X.env := by rfl) (hp : (backTo pos2 (starEach [b] X.env)).any (·.1) = false := by rfl) : DN X T ξ W (.Call (.Name "list" p1) [.Call (.Name "range" p2) [a, b] [] pos2] [] pos) (fRg2 f g) := by
  refine (pe_listRg hc hg hm (prg_2 hg2 hm2 h h' na nb hp) nr).to fun σ H Q ⟨ρ, Z, F, s, h⟩ => ⟨ρ, Z, F, s, (Pst.bind h).imp fun d ρ1 H1 Z1 F1 e1 s1 k1 v rv => ⟨ρ1, Z1, F1, s1, (Pst.bind k1).imp fun e ρ2 H2 Z2 F2 e2 s2 k w rw' => ?_⟩⟩
  cases d with
  | int i =>
    cases e with
    | int j =>
      cases (show v = _ from rv)
      cases (show w = _ from rw')
      by_cases c : (-(lim : Int) ≤ i ∧ i ≤ (lim : Int)) ∧ -(lim : Int) ≤ j ∧ j ≤ (lim : Int)
      · simp only [if_pos c] at k
        have l : (lim : Int) = 1000000 := rfl
        exact ⟨i, j, rfl, rfl, ⟨by omega, by omega, by omega, by omega, by omega⟩, fun q hq => k.here s2 q _ _ upd_same upd_other hq rgV_rp (by rw [rgD_length, sizeLine_eq]; omega)⟩
      · simp only [if_neg c] at k
        exact k.elim
    | _ => exact k.elim
  | _ => exact k.elim
end
/-- a, b, .. = x, y, ..: the tuple is made and taken apart -/
def gNames : List Nat → TGs
  | [] => gNil
  | i :: is => gCons (gName i) (gNames is)
@[simp] def putAll : List Nat → List Sl → Ro → Option Ro
  | [], [], ρ => some ρ
  | i :: is, s :: ss, ρ => if i < ρ.length then putAll is ss (ρ.set i s) else none
  | _, _, _ => none
@[simp] def fParG (is : List Nat) (g : Fr (List Sl)) : Fs := fun ρ => (g ρ).sr fun ss ρ' => if is.length ≤ 20 then (match putAll is ss ρ' with
  | some ρ'' => .nx ρ''
  | none => .st) else .st
theorem putAll_len : ∀ {is : List Nat} {ss : List Sl} {ρ ρ' : Ro}, putAll is ss ρ = some ρ' → ss.length = is.length
  | [], [], _, _, _ => rfl
  | [], _ :: _, _, _, h => by cases h
  | _ :: _, [], _, _, h => by cases h
  | i :: is, s :: ss, ρ, ρ', h => by
    unfold putAll at h
    by_cases c : i < ρ.length
    · rw [if_pos c] at h
      rw [List.length_cons, List.length_cons, putAll_len h]
    · rw [if_neg c] at h; cases h
theorem RpSs.length : ∀ {ss : List Sl} {vs : List V} {Ps : List Z1}, RpSs X T H Z ss vs Ps → vs.length = ss.length
  | [], _, _, ⟨e, _⟩ => by rw [e]; rfl
  | _ :: _, _, _, ⟨_, _, _, _, e, _, _, _, r⟩ => by rw [e, List.length_cons, List.length_cons, RpSs.length r]
theorem putAll_ok {E : L2.St → Hp → Prop} : ∀ {is : List Nat} {ss : List Sl} {ρ ρ' : Ro} {σ : L2.St} {F : F1} {vs : List V} {Ps : List Z1}, putAll is ss ρ = some ρ' → Sta X.K X.mg T ξ H Z F σ ρ → RpSs X T H Z ss vs Ps → (∀ a, pend Ps a → ¬ own F a ∧ ¬ Z a) →
    (∀ σ' F', Sta X.K X.mg T ξ H Z F' σ' ρ' → (∀ a, own F' a → own F a ∨ pend Ps a) → E σ' H) → gNames is vs σ H E
  | [], [], ρ, ρ', σ, F, vs, Ps, h, s, ⟨e1, e2⟩, n, k => by
    cases h
    exact ⟨e1, k σ F s fun a z => .inl z⟩
  | [], _ :: _, _, _, _, _, _, _, h, _, _, _, _ => by cases h
  | _ :: _, [], _, _, _, _, _, _, h, _, _, _, _ => by cases h
  | i :: is, sl :: ss, ρ, ρ', σ, F, vs, Ps, h, s, ⟨v, vs', P, Ps', e1, e2, r, dj, r2⟩, n, k => by
    subst e1
    subst e2
    unfold putAll at h
    by_cases c : i < ρ.length
    · rw [if_pos c] at h
      obtain ⟨s2, _⟩ := s.putP (fun a q => n a (pend_cons.mpr (.inl q))) c r
      refine ⟨v, vs', rfl, putAll_ok h s2 r2 (fun a q => ⟨fun z => (own_fset z).elim (n a (pend_cons.mpr (.inr q))).1 fun p => ?_, (n a (pend_cons.mpr (.inr q))).2⟩) fun σ' F' s' ho => k σ' F' s' fun a z => ?_⟩
      · obtain ⟨Q, hQ, qa⟩ := q
        exact dj a p Q hQ qa
      · rcases ho a z with z | z
        · rcases own_fset z with z | z
          · exact .inl z
          · exact .inr (pend_cons.mpr (.inl z))
        · exact .inr (pend_cons.mpr (.inr z))
    · rw [if_neg c] at h; cases h
theorem dnm_nil : PGs X [] (gNames []) := pgs_nil
theorem dnm_cons (i : Nat) {is : List Nat} {x : Str} {pos : Pos} {es : List Expr} (hN : X.N.Nodup) (r : PGs X es (gNames is)) (hi : X.N[i]? = some x := by rfl) (hx : Loc X.env.scope x := by first | exact Or.inl rfl | exact Or.inr rfl) (hf : X.fn x = true ∨ X.env.scope.names.lookup x = some .local := by first | exact .inl rfl | exact .inr rfl)
    (hs : (assignEach (.Name x pos :: es) X.env).map (·.2) = assign (.Name x pos) X.env :: (assignEach es X.env).map (·.2) := by rfl) : PGs X (.Name x pos :: es) (gNames (i :: is)) := pgs_cons (pg_name hN hi hx hf) r hs
theorem ds_parG {is : List Nat} {tgs es : List Expr} {g : Fr (List Sl)} {kt k2 : Nat} {pt pt2 pos : Pos} (hc : X.calm = true) (hg : PGs X tgs (gNames is)) (ha : DVs X T ξ W es g) (hn : (assignEach tgs X.env).length = is.length := by rfl) (hst : (assignEach tgs X.env).findIdx? (·.1) = none := by rfl)
    (hs : swapsWithSole [.Tuple tgs kt pt] (.Tuple es k2 pt2) pos.line X.env = pure false := by rfl) (hw : swappedStores [.Tuple tgs kt pt] (.Tuple es k2 pt2) X.env = pure none := by rfl)
    (h1 : (assignEach [.Tuple tgs kt pt] X.env).map (·.2) = [assign (.Tuple tgs kt pt) X.env] := by rfl) : DS X T ξ W (.Assign [.Tuple tgs kt pt] (.Tuple es k2 pt2) pos) (fParG is g) := by
  refine (ps_asg (pe_tup ha) (pg_tup hc hg hn hst) hs hw h1).to fun E σ H ⟨ρ, Z, F, s, h⟩ => ⟨ρ, Z, F, s, ?_⟩
  unfold fParG at h
  cases e : g ρ with
  | st => rw [e] at h; exact h
  | ex n d ρ' => rw [e] at h; exact fun v H' Z' F' da e' s' => h v σ H' Z' F' da e' s'
  | ok ss ρ1 =>
    rw [e] at h
    intro vs H1 Z1 F1 Ps e1 s1 r1 n1
    simp only [Res.sr] at h
    by_cases c : is.length ≤ 20
    · rw [if_pos c] at h
      cases ep : putAll is ss ρ1 with
      | none => simp only [ep] at h; exact h.elim
      | some ρ2 =>
        simp only [ep] at h
        have hl : vs.length = is.length := by rw [r1.length, putAll_len ep]
        refine ⟨by rw [hl, sizeLine_eq]; omega, fun t ht => ⟨t, vs, rfl, .of upd_same, hl, ?_⟩⟩
        obtain ⟨s2, e2, nz, no⟩ := own_new (o := .tup vs) s1 ht
        have oth : ∀ b, b ≠ t → upd H1 t (.tup vs) b = H1 b := fun b n => upd_ne n
        have keep : ∀ {s : Sl} {o : Option V} {P : Addr → Prop}, RpS X.K X.mg T none H1 Z1 s o P → RpS X.K X.mg T none (upd H1 t (.tup vs)) Z1 s o P := fun {s o P} r =>
          r.mono (fun b o hb z => (oth b (ne_of_none hb ht)).trans hb) (fun b o u hb => (oth b (ne_of_none hb ht)).trans hb) (fun _ z => z) fun a q => by
            obtain ⟨u, hu⟩ := r.has q
            exact oth a (ne_of_none hu ht)
        have rec_ : ∀ {ss : List Sl} {us : List V} {Ps : List (Addr → Prop)}, RpSs X T H1 Z1 ss us Ps → RpSs X T (upd H1 t (.tup vs)) Z1 ss us Ps := by
          intro ss
          induction ss with
          | nil => intro us Ps r; exact r
          | cons s ss ih =>
            intro us Ps ⟨v, vs', P, Ps', a1, a2, a3, a4, a5⟩
            exact ⟨v, vs', P, Ps', a1, a2, keep a3, a4, ih a5⟩
        refine putAll_ok ep s2 (rec_ r1) n1 fun σ' F' s' ho => h σ' _ Z1 F' ?_ s'
        refine ⟨fun b o hb n => (oth b ?_).trans (e1.keep b o hb n), e1.zz, fun a z => e1.oo a (ho a z), e1.zo⟩
        exact ne_of_none (e1.keep b o hb n) ht
    · rw [if_neg c] at h; exact h.elim
end
/-! ### 42. what the top has written -/
section
variable {P : Program} {w : World} {K : Frag} {mg : Str → Option Value} {base h : Heap} {x : Str} {st : Stmt} {ps : List Str}
def FnF (K : Frag) (x : Str) (st : Stmt) : Prop := ∃ (f : Addr) (oc : Value) (od : Option Addr) (kV doc pm : Value) (an : Option Addr) (cdv ct : Value) (osl : Array (Option Value)), PySem.W.nsIn K mainGlobals x = some (some (.ref f)) ∧
  K.lookup f = some ⟨oc, od, .func (PySem.W.fnOf x x (defArgs st) (defBody st) (defScope st) .none kV doc pm an cdv ct), osl⟩ ∧ PySem.W.codeIn K cdv x = true ∧ PySem.W.keepIn K (.ref f) = true
theorem fnF_mk {f : Addr} {oc : Value} {od : Option Addr} {kV doc pm : Value} {an : Option Addr} {cdv ct : Value} {osl : Array (Option Value)} (a : PySem.W.nsIn K mainGlobals x = some (some (.ref f)))
    (l : K.lookup f = some ⟨oc, od, .func (PySem.W.fnOf x x (defArgs st) (defBody st) (defScope st) .none kV doc pm an cdv ct), osl⟩) (c : PySem.W.codeIn K cdv x = true) (k : PySem.W.keepIn K (.ref f) = true) : FnF K x st := ⟨f, oc, od, kV, doc, pm, an, cdv, ct, osl, a, l, c, k⟩
theorem FnF.tx (F : FnF K x st) (X : K.In h) (G : h.Ns mainGlobals mg)
    (hb : ∀ (kV doc pm : Value) (an : Option Addr) (cdv ct : Value) (us : List Value), us.length = ps.length → bindArgs (PySem.W.fnOf x x (defArgs st) (defBody st) (defScope st) .none kV doc pm an cdv ct) ⟨us, []⟩ = pure (ps.zip us)) : FnTx K mg x st ps := by
  obtain ⟨f, oc, od, kV, doc, pm, an, cdv, ct, osl, a, l, c, k⟩ := F
  have Fu := fun_mk (st := st) l c k
  exact ⟨f, _, PySem.W.mg_of X G a, Fu, Fu.binds hb⟩
/-- a constant that is a whole number -/
theorem glI {n : Int} {t : Tok} (X : K.In h) (G : h.Ns mainGlobals mg) (a : PySem.W.nsIn K mainGlobals x = some (some (.int n t))) : GlD K mg x (.int n) := ⟨.int n, _, PySem.W.mg_of X G a, ⟨t, rfl⟩, fun _ _ => rfl⟩
/-- .. a tuple of whole numbers -/
theorem glT {z : Addr} {dd : Option Addr} {its : Array Value} {n : Nat} {sl : Array (Option Value)} {ns : List Int} (X : K.In h) (G : h.Ns mainGlobals mg) (a : PySem.W.nsIn K mainGlobals x = some (some (.ref z))) (l : K.lookup z = some ⟨.type "tuple", dd, .seq its n, sl⟩) (hi : its.toList.map absV = ns.map fun i => some (.int i)) (hl : ns.length ≤ 1000) :
    GlD K mg x (.tup (ns.map .int)) := by
  have key : ∀ (us : List Value) (ms : List Int), us.map absV = ms.map (fun i => some (V.int i)) → Vals (ms.map V.int) us := by
    intro us
    induction us with
    | nil => intro ms e; cases ms with | nil => exact .nil | cons _ _ => cases e
    | cons u us ih =>
      intro ms e
      cases ms with
      | nil => cases e
      | cons i ms =>
        simp only [List.map_cons, List.cons.injEq] at e
        refine .cons ?_ (ih ms e.2)
        cases u <;> first
          | (cases e.1; exact ⟨_, rfl⟩)
          | (cases e.1)
  have hz : its.size ≤ sizeLine := by
    have := congrArg List.length hi
    rw [List.length_map, List.length_map, Array.length_toList] at this
    rw [this]
    exact le1000 hl
  refine ⟨.ref z, _, PySem.W.mg_of X G a, rfl, fun H Z => ⟨z, ns.map V.int, rfl, .inr ⟨_, its, n, l, rfl, rfl, hz, key _ _ hi⟩, RpL.ints ns, by rw [List.length_map]; exact le1000 hl⟩⟩
theorem glL {n : Int} {lv : List (Str × PySem.W.WData)} (XG : PySem.W.XL P lv mg h) (m : (x, PySem.W.WData.int n) ∈ lv) : GlD K mg x (.int n) := by
  obtain ⟨v, e, r⟩ := XG.2.val _ m
  cases r
  exact ⟨.int n, _, e, ⟨_, rfl⟩, fun _ _ => rfl⟩
/-- a class of exceptions -/
theorem x_mk {C fI N : Addr} {nm q q2 : Str} {bs bm : List Value} {sn : List Str} {sub : List Value} {ab : Bool} {col : Option Bool} {dd : Option Addr} {k0 k1 k2 k3 k5 : Option Value} {f v txt : Str}
    {oc ccl cl : Value} {od an cdd cld : Option Addr} {doc pm ct : Value} {osl ccs csl : Array (Option Value)} {cda cc : Addr} {p1 p2 : Pos} {qa qb qc qd qe qf qg qh qi qk ql : Pos} {vs : Array Value} {file : Str} {tf : Tok}
    (xL : K.lookup C = some (excClassObj nm q C N bs bm true sn sub ab col dd k0 k1 k2 k3 k5 "ValueError.__new__")) (hb : PySem.HandSPX.refsVE bm = true)
    (sa : PySem.W.findIn K (.ref C) "__setattr__" = some (some (.builtin "object.__setattr__"))) (noN : PySem.W.findIn K (.ref C) f = some none) (iC : PySem.W.findIn K (.ref C) "__init__" = some (some (.ref fI))) (tC : PySem.W.typeIn K (.ref fI) = some (.type "function"))
    (kC : PySem.W.keepIn K (.ref C) = true) (exC : PySem.W.subIn K (.ref C) (.type "BaseException") = some true) (tyC : PySem.W.typeIn K (.ref C) = some (.type "type")) (up : PySem.W.ks_superIn K C C "__init__" = some (some (.builtin "ValueError.__init__"))) (veC : PySem.W.subIn K (.ref C) (.type "ValueError") = some true)
    (any : PySem.W.nsIn K cStatics "thirdparty.any" = some none) (own : PySem.W.mroIn K C (.ref C) = some true) (top : (P.main.scope.names.lookup ("super" : Str)).isSome = false)
    (lI : K.lookup fI = some ⟨oc, od, .func (PySem.W.ksFn "__init__" q2 (xiA v p1 p2) (xiB txt f v ⟨qa, qb, qc, qd, qe, qf, qg, qh, qi, qk, ql⟩) (xiS v) .none .none doc pm an (.ref cda) ct cc), osl⟩) (cI : PySem.W.codeIn K (.ref cda) q2 = true)
    (lc : K.lookup cda = some ⟨ccl, cdd, .fields vs, ccs⟩) (hvs : vs[2]? = some (.str file tf)) (hf : ((P.main.file : Str) == file) = true) (lcc : K.lookup cc = some ⟨cl, cld, .cell (some (.ref C)), csl⟩) (ev : xiEv txt v ⟨qa, qb, qc, qd, qe, qf, qg, qh, qi, qk, ql⟩) : ∃ fI txt, XTxt P K C fI txt f v :=
  ⟨fI, txt, ⟨nm, q, N, bs, bm, sn, sub, ab, col, dd, k0, k1, k2, k3, k5, xL, hb⟩, sa, noN, iC, tC, kC, exC, tyC, up, veC, any, own, top, q2, oc, ccl, cl, od, an, cdd, cld, doc, pm, ct, osl, ccs, csl, cda, cc, p1, p2, _, vs, file, tf, lI, cI, lc, hvs, hf, lcc, ev⟩
theorem exm_mk {C S : Addr} {b : Bool} (h1 : PySem.W.subIn K (.ref S) (.type "BaseException") = some true) (h2 : PySem.W.isClsIn K S = true) (h3 : PySem.W.typeIn K (.ref S) = some (.type "type")) (h4 : PySem.W.subIn K (.ref C) (.ref S) = some b) : PySem.W.exmOne K (.ref C) (.ref S) = some b := by
  have e1 : (PySem.W.subIn K (.ref S) (.type "BaseException") == some true) = true := by rw [h1] <;> rfl
  have e2 : ((PySem.W.clsIn K S).isSome && PySem.W.typeIn K (.ref S) == some (.type "type")) = true := by
    have h2' : (PySem.W.clsIn K S).isSome = true := h2
    rw [h2', h3] <;> rfl
  show (if (PySem.W.subIn K (.ref S) (.type "BaseException") == some true) = true then (if ((PySem.W.clsIn K S).isSome && PySem.W.typeIn K (.ref S) == some (.type "type")) = true then PySem.W.subIn K (.ref C) (.ref S) else none) else none) = some b
  rw [if_pos e1, if_pos e2]
  exact h4
end
end Dt
namespace Dt
open PySem PySem.Spec PyProof.Rows L2
/-! ### 43. loops by what they keep -/
section
variable {α β : Type} {vs : List Nat} {b : D → Ro → Option Ro} {body : Fs} {c : Fr Bool}
/-- a turn that goes on -/
def Turn (vs : List Nat) (b : D → Ro → Option Ro) (body : Fs) (d : D) (ρ ρ' : Ro) : Prop := ∃ ρ2 ρ3, b d ρ = some ρ2 ∧ (body ρ2 = .nx ρ3 ∨ body ρ2 = .ct ρ3) ∧ wipeR ρ3 vs = ρ'
theorem turn_nx {d : D} {ρ ρ' ρ2 ρ3 : Ro} (h1 : b d ρ = some ρ2) (h2 : body ρ2 = .nx ρ3) (h3 : wipeR ρ3 vs = ρ') : Turn vs b body d ρ ρ' := ⟨ρ2, ρ3, h1, .inl h2, h3⟩
theorem forGo_turn {d : D} {ds : List D} {ρ ρ' : Ro} (h : Turn vs b body d (wipeR ρ vs) ρ') : ∃ ρ3, wipeR ρ3 vs = ρ' ∧ forGo vs b body (d :: ds) ρ = forGo vs b body ds ρ3 := by
  obtain ⟨ρ2, ρ3, h1, h2, h3⟩ := h
  refine ⟨ρ3, h3, ?_⟩
  show (match b d (wipeR ρ vs) with
    | none => Sr.st
    | some ρ2 => match body ρ2 with
      | .nx ρ3 => forGo vs b body ds ρ3
      | .ct ρ3 => forGo vs b body ds ρ3
      | .bk ρ3 => .nx (wipeR ρ3 vs)
      | r => r) = _
  rw [h1]
  rcases h2 with h2 | h2 <;> simp only [h2]
theorem for_rel (enc : β → D) (I : List β → Ro → Prop) (hs : ∀ x xs ρ, I (x :: xs) ρ → ∃ ρ', Turn vs b body (enc x) ρ ρ' ∧ I xs ρ') : ∀ (xs : List β) (ρ : Ro), I xs (wipeR ρ vs) → ∃ ρ', forGo vs b body (xs.map enc) ρ = .nx ρ' ∧ I [] ρ'
  | [], ρ, h => ⟨_, rfl, h⟩
  | x :: xs, ρ, h => by
    obtain ⟨ρ', t, h'⟩ := hs x xs _ h
    obtain ⟨ρ3, e, q⟩ := forGo_turn (ds := xs.map enc) t
    rw [List.map_cons, q]
    exact for_rel enc I hs xs ρ3 (by rw [e]; exact h')
theorem for_fold (enc : β → D) (st : α → Ro) (f : α → β → α) (P : List β → α → Prop) (hs : ∀ x xs a, P (x :: xs) a → Turn vs b body (enc x) (st a) (st (f a x)) ∧ P xs (f a x)) :
    ∀ (xs : List β) (a : α) (ρ : Ro), wipeR ρ vs = st a → P xs a → forGo vs b body (xs.map enc) ρ = .nx (st (xs.foldl f a)) ∧ P [] (xs.foldl f a)
  | [], a, ρ, e, h => ⟨by show Sr.nx (wipeR ρ vs) = _; rw [e]; rfl, h⟩
  | x :: xs, a, ρ, e, h => by
    obtain ⟨t, h'⟩ := hs x xs a h
    rw [← e] at t
    obtain ⟨ρ3, e3, q⟩ := forGo_turn (ds := xs.map enc) t
    rw [List.map_cons, q]
    exact for_fold enc st f P hs xs (f a x) ρ3 e3 h'
theorem wh_rel (I : Nat → Ro → Prop) (J : Ro → Prop) (hs : ∀ n ρ, I n ρ → (∃ ρ1, c ρ = .ok false ρ1 ∧ J ρ1) ∨ ∃ ρ1 ρ2 m, c ρ = .ok true ρ1 ∧ (body ρ1 = .nx ρ2 ∨ body ρ1 = .ct ρ2) ∧ m < n ∧ I m (wipeR ρ2 vs)) :
    ∀ (n : Nat) (ρ : Ro), I n (wipeR ρ vs) → ∃ ρ', fWh vs c body ρ = .nx ρ' ∧ J ρ' := by
  have key : ∀ (k n : Nat) (ρ : Ro), n < k → I n (wipeR ρ vs) → ∃ k' ρ', whGo vs c body k' ρ = .nx ρ' ∧ J ρ' := by
    intro k
    induction k with
    | zero => intro n ρ h; omega
    | succ k ih =>
      intro n ρ hn h
      rcases hs n _ h with ⟨ρ1, e, j⟩ | ⟨ρ1, ρ2, m, e1, e2, hm, h'⟩
      · refine ⟨1, ρ1, ?_, j⟩
        unfold whGo
        simp [e]
      · obtain ⟨k', ρ', e, j⟩ := ih m ρ2 (by omega) h'
        refine ⟨k' + 1, ρ', ?_, j⟩
        unfold whGo
        rcases e2 with e2 | e2 <;> simp [e1, e2, e]
  intro n ρ h
  obtain ⟨k, ρ', e, j⟩ := key (n + 1) n ρ (by omega) h
  exact ⟨ρ', fWh_of e (by intro z; cases z), j⟩
theorem lc_map {tt : Fr Bool} {te : Fr D} (enc : β → D) (t : β → Bool) (g : β → D) {ρ : Ro} : ∀ (xs : List β) (acc : List D),
    (∀ x ∈ xs, ∃ ρ2 ρ3, b (enc x) ρ = some ρ2 ∧ tt ρ2 = .ok (t x) ρ3 ∧ (t x = false → wipeR ρ3 vs = ρ) ∧ (t x = true → ∃ ρ4, te ρ3 = .ok (g x) ρ4 ∧ wipeR ρ4 vs = ρ)) →
    lcGo vs b tt te (xs.map enc) acc ρ = some (acc ++ (xs.filter t).map g, ρ)
  | [], acc, _ => by simp [lcGo]
  | x :: xs, acc, h => by
    obtain ⟨ρ2, ρ3, h1, h2, h3, h4⟩ := h x (List.mem_cons_self ..)
    have ih := fun acc => lc_map enc t g xs acc fun y hy => h y (List.mem_cons_of_mem _ hy)
    rw [List.map_cons]
    unfold lcGo
    simp only [h1, h2]
    cases e : t x with
    | false =>
      simp only [h3 e, ih]
      rw [List.filter_cons_of_neg (by rw [e]; simp)]
    | true =>
      obtain ⟨ρ4, h5, h6⟩ := h4 e
      simp only [h5, h6, ih]
      rw [List.filter_cons_of_pos e]
      simp
end
/-! ### 44. whole numbers, shares -/
theorem fmod_lt {a b : Int} (h : b ≠ 0) : (a.fmod b).natAbs < b.natAbs := by
  have e := Int.fmod_eq_emod (a := a) (b := b)
  have h1 := Int.emod_nonneg a h
  have h2 := Int.emod_lt a h
  by_cases c : 0 ≤ b ∨ b ∣ a
  · rw [if_pos c] at e
    rcases c with c | c
    · omega
    · rw [Int.emod_eq_zero_of_dvd c] at e
      omega
  · rw [if_neg c] at e
    have h4 : a % b ≠ 0 := fun z => c (.inr (Int.dvd_of_emod_eq_zero z))
    have h5 : ¬ 0 ≤ b := fun z => c (.inl z)
    omega
theorem gcd_fmod (a b : Int) : Int.gcd b (a.fmod b) = Int.gcd a b := by
  rw [Int.fmod_def, Int.gcd_sub_mul_left_right, Int.gcd_comm]
theorem log_lt {i : Int} {n k : Nat} (h : i.natAbs < 2 ^ n) (hk : n ≤ k) (h0 : 0 < k) : i.natAbs.log2 < k := by
  by_cases e : i.natAbs = 0
  · rw [e]; exact h0
  · exact (Nat.log2_lt e).mpr (Nat.lt_of_lt_of_le h (Nat.pow_le_pow_right (by decide) hk))
/-- less than so many bits -/
def Bt (n : Nat) (i : Int) : Prop := i.natAbs < 2 ^ n
theorem Bt.mono {n k : Nat} {i : Int} (h : Bt n i) (hk : n ≤ k) : Bt k i := Nat.lt_of_lt_of_le h (Nat.pow_le_pow_right (by decide) hk)
theorem Bt.mul {n k : Nat} {i j : Int} (h : Bt n i) (g : Bt k j) : Bt (n + k) (i * j) := by
  unfold Bt
  rw [Int.natAbs_mul, Nat.pow_add]
  exact Nat.mul_lt_mul'' h g
theorem Bt.add {n k : Nat} {i j : Int} (h : Bt n i) (g : Bt n j) (hk : n + 1 ≤ k) : Bt k (i + j) := by
  refine Bt.mono (n := n + 1) ?_ hk
  unfold Bt at *
  have := Int.natAbs_add_le i j
  rw [Nat.pow_succ]
  omega
theorem Bt.neg {n : Nat} {i : Int} (h : Bt n i) : Bt n (-i) := by
  unfold Bt at *
  rwa [Int.natAbs_neg]
theorem Bt.sub {n k : Nat} {i j : Int} (h : Bt n i) (g : Bt n j) (hk : n + 1 ≤ k) : Bt k (i - j) := by
  rw [Int.sub_eq_add_neg]
  exact h.add g.neg hk
theorem Bt.mulOk {n k : Nat} {i j : Int} (h : Bt n i) (g : Bt k j) (hk : n + k + 1 < 1000000) : mulOk i j = true := by
  have h1 := log_lt (k := n + 1) h (Nat.le_succ _) (Nat.succ_pos _)
  have h2 := log_lt (k := k + 1) g (Nat.le_succ _) (Nat.succ_pos _)
  unfold Dt.mulOk
  exact decide_eq_true (by omega)
theorem Bt.divOk {n : Nat} {i j : Int} (h : Bt n j) (hn : n ≤ 9000) (h0 : j ≠ 0) : divOk i j = true := decide_eq_true ⟨h0, log_lt h hn (by decide)⟩
theorem Bt.gcd {n : Nat} {i j : Int} (h : Bt n j) (h0 : j ≠ 0) : Bt n (Int.gcd i j) := by
  unfold Bt at *
  have := Int.gcd_le_natAbs_right (i) h0
  exact Nat.lt_of_le_of_lt (by simpa using this) h
theorem oMul_ok {i j : Int} (h : mulOk i j = true) : oMul (.int i) (.int j) = some (.int (i * j)) := by
  show (if mulOk i j = true then _ else _) = _
  rw [if_pos h]
theorem oDiv_ok {i j : Int} (h : divOk i j = true) : oDiv (.int i) (.int j) = some (.int (i.fdiv j)) := by
  show (if divOk i j = true then _ else _) = _
  rw [if_pos h]
theorem oMod_ok {i j : Int} (h : j ≠ 0) : oMod (.int i) (.int j) = some (.int (i.fmod j)) := by
  show (if decide (j ≠ 0) = true then _ else _) = _
  rw [if_pos (decide_eq_true h)]
@[simp] theorem okq_int {i : Int} : (D.int i).okq = true := rfl
@[simp] theorem eqD_int {i j : Int} : eqD (.int i) (.int j) = (i == j) := by simp [eqD]
@[simp] theorem atI_nat {α : Type} {ds : List α} {n : Nat} : L2.atI ds (n : Int) = ds[n]? := by
  unfold L2.atI L2.ixN
  rw [if_pos (Int.natCast_nonneg n)]
  by_cases h : n < ds.length
  · rw [if_pos (by omega)]
    simp
  · rw [if_neg (by omega), List.getElem?_eq_none (by omega)]
    rfl
@[simp] theorem atI_zero {α : Type} {ds : List α} : L2.atI ds 0 = ds[0]? := atI_nat (n := 0)
@[simp] theorem atI_one {α : Type} {ds : List α} : L2.atI ds 1 = ds[1]? := atI_nat (n := 1)
@[simp] theorem atI_2 {α : Type} {ds : List α} : L2.atI ds 2 = ds[2]? := atI_nat (n := 2)
@[simp] theorem atI_3 {α : Type} {ds : List α} : L2.atI ds 3 = ds[3]? := atI_nat (n := 3)
@[simp] theorem atI_4 {α : Type} {ds : List α} : L2.atI ds 4 = ds[4]? := atI_nat (n := 4)
@[simp] theorem atI_5 {α : Type} {ds : List α} : L2.atI ds 5 = ds[5]? := atI_nat (n := 5)
@[simp] theorem atI_6 {α : Type} {ds : List α} : L2.atI ds 6 = ds[6]? := atI_nat (n := 6)
@[simp] theorem atI_7 {α : Type} {ds : List α} : L2.atI ds 7 = ds[7]? := atI_nat (n := 7)
@[simp] theorem atI_8 {α : Type} {ds : List α} : L2.atI ds 8 = ds[8]? := atI_nat (n := 8)
@[simp] theorem atI_9 {α : Type} {ds : List α} : L2.atI ds 9 = ds[9]? := atI_nat (n := 9)
@[simp] theorem natCast_beq {a b : Nat} : ((a : Int) == (b : Int)) = (a == b) := by
  by_cases h : a = b
  · subst h; simp
  · rw [beq_eq_false_iff_ne.mpr h, beq_eq_false_iff_ne.mpr (by omega)]
abbrev Sh (q : Rat) : D := .tup [.int q.num, .int q.den]
/-- numbers of a share in so many bits -/
def Sz (n : Nat) (q : Rat) : Prop := Bt n q.num ∧ Bt n q.den
theorem Sz.mono {n k : Nat} {q : Rat} (h : Sz n q) (hk : n ≤ k) : Sz k q := ⟨h.1.mono hk, h.2.mono hk⟩
theorem den0 (q : Rat) : (q.den : Int) ≠ 0 := by
  have := q.den_nz
  omega
theorem den00 (p q : Rat) : (p.den : Int) * q.den ≠ 0 := Int.mul_ne_zero (den0 p) (den0 q)
/-- so many parts of one in M -/
def Ds (M : Nat) (q : Rat) : Prop := ∃ z : Int, q * (M : Rat) = z
theorem Ds.den {M : Nat} {q : Rat} (h : Ds M q) : q.den ∣ M := by
  obtain ⟨z, e⟩ := h
  have h1 : q = (q.num : Rat) / (q.den : Rat) := by
    have := Rat.num_divInt_den q
    rw [Rat.divInt_eq_div] at this
    exact this.symm
  have hd : (q.den : Rat) ≠ 0 := by
    intro c
    exact q.den_nz (by exact_mod_cast c)
  have h2 : (q.num : Rat) * (M : Rat) = (z : Rat) * (q.den : Rat) := by
    grind
  have h3 : q.num * (M : Int) = z * (q.den : Int) := by exact_mod_cast h2
  have h4 : (q.den : Int) ∣ q.num * (M : Int) := ⟨z, by rw [h3, Int.mul_comm]⟩
  have h5 : q.den ∣ q.num.natAbs * M := by
    have := Int.natAbs_dvd_natAbs.mpr h4
    rwa [Int.natAbs_mul, Int.natAbs_natCast, Int.natAbs_natCast] at this
  exact (Nat.Coprime.symm q.reduced).dvd_of_dvd_mul_left h5
theorem Ds.add {M : Nat} {p q : Rat} (h : Ds M p) (g : Ds M q) : Ds M (p + q) := by
  obtain ⟨z, e⟩ := h
  obtain ⟨w, f⟩ := g
  exact ⟨z + w, by rw [Rat.add_mul, e, f]; exact (Rat.intCast_add z w).symm⟩
theorem Ds.mul {M N : Nat} {p q : Rat} (h : Ds M p) (g : Ds N q) : Ds (M * N) (p * q) := by
  obtain ⟨z, e⟩ := h
  obtain ⟨w, f⟩ := g
  refine ⟨z * w, ?_⟩
  rw [Rat.intCast_mul, ← e, ← f]
  have : ((M * N : Nat) : Rat) = (M : Rat) * (N : Rat) := by exact_mod_cast rfl
  rw [this]
  grind
/-- a chance -/
structure Pr (M : Nat) (q : Rat) : Prop where
  ds : Ds M q
  lo : 0 ≤ q
  hi : q ≤ 1
theorem Pr.sz {M n : Nat} {q : Rat} (h : Pr M q) (h0 : 0 < M) (hM : M < 2 ^ n) : Sz n q := by
  have hd : q.den ≤ M := Nat.le_of_dvd h0 h.ds.den
  have h1 : 0 ≤ q.num := Rat.num_nonneg.mpr h.lo
  have h2 := (Rat.le_iff _ _).mp h.hi
  simp only [Rat.num_ofNat, Rat.den_ofNat] at h2
  refine ⟨?_, ?_⟩
  · unfold Bt
    omega
  · unfold Bt
    omega
theorem Pr.zero {M : Nat} : Pr M 0 := ⟨⟨0, by simp⟩, by decide, by decide⟩
theorem Pr.one {M : Nat} : Pr M 1 := ⟨⟨M, by rw [Rat.one_mul]; exact_mod_cast rfl⟩, by decide, by decide⟩
theorem Pr.mul {M N : Nat} {p q : Rat} (h : Pr M p) (g : Pr N q) : Pr (M * N) (p * q) where
  ds := h.ds.mul g.ds
  lo := Rat.mul_nonneg h.lo g.lo
  hi := by
    have h1 : p * q ≤ 1 * q := Rat.mul_le_mul_of_nonneg_right h.hi g.lo
    have h2 := g.hi
    grind
theorem Pr.up {M N : Nat} {p : Rat} (h : Pr M p) (d : M ∣ N) : Pr N p := ⟨by
  obtain ⟨k, e⟩ := d
  subst e
  have e1 : Ds k 1 := (Pr.one (M := k)).ds
  have := h.ds.mul e1
  rwa [Rat.mul_one] at this, h.lo, h.hi⟩
theorem Sz.one {n : Nat} (h : 0 < n) : Sz n 1 := by
  have h1 : (2 : Nat) ^ 1 ≤ 2 ^ n := Nat.pow_le_pow_right (by decide) h
  have h3 : (1 : Nat) < 2 ^ n := by omega
  exact ⟨h3, h3⟩
theorem Sz.zero {n : Nat} (h : 0 < n) : Sz n 0 := by
  have h1 : (2 : Nat) ^ 1 ≤ 2 ^ n := Nat.pow_le_pow_right (by decide) h
  have h3 : (1 : Nat) < 2 ^ n := by omega
  exact ⟨Nat.lt_trans (by decide : (0 : Nat) < 1) h3, h3⟩
def qsum : List Rat → Rat
  | [] => 0
  | q :: qs => q + qsum qs
@[simp] theorem qsum_nil : qsum [] = 0 := rfl
@[simp] theorem qsum_cons {q : Rat} {qs : List Rat} : qsum (q :: qs) = q + qsum qs := rfl
theorem qsum_app : ∀ {ps qs : List Rat}, qsum (ps ++ qs) = qsum ps + qsum qs
  | [], qs => by simp [Rat.zero_add]
  | p :: ps, qs => by simp [qsum_app (ps := ps), Rat.add_assoc]
theorem qsum_nonneg : ∀ {qs : List Rat}, (∀ q ∈ qs, 0 ≤ q) → 0 ≤ qsum qs
  | [], _ => by decide
  | q :: qs, h => by
    have h1 := h q (List.mem_cons_self ..)
    have h2 := qsum_nonneg fun x hx => h x (List.mem_cons_of_mem q hx)
    simp
    grind
theorem foldl_qsum : ∀ {qs : List Rat} {a : Rat}, qs.foldl (· + ·) a = a + qsum qs
  | [], a => by simp [Rat.add_zero]
  | q :: qs, a => by
    rw [List.foldl_cons, foldl_qsum, qsum_cons, Rat.add_assoc]
/-- shares to be summed: each a chance's part, all together at most one -/
structure Su (M : Nat) (qs : List Rat) (a : Rat) : Prop where
  ds : ∀ q ∈ qs, Ds M q
  lo : ∀ q ∈ qs, 0 ≤ q
  acc : Pr M a
  hi : a + qsum qs ≤ 1
theorem Su.tail {M : Nat} {q a : Rat} {qs : List Rat} (h : Su M (q :: qs) a) : Pr M q ∧ Su M qs (a + q) := by
  have h1 := h.hi
  have h2 := h.lo q (List.mem_cons_self ..)
  have h3 := h.acc.lo
  have h4 : 0 ≤ qsum qs := qsum_nonneg fun x hx => h.lo x (List.mem_cons_of_mem q hx)
  have h5 := h.ds q (List.mem_cons_self ..)
  rw [qsum_cons] at h1
  exact ⟨⟨h5, h2, by grind⟩, fun x hx => h.ds x (List.mem_cons_of_mem q hx), fun x hx => h.lo x (List.mem_cons_of_mem q hx), ⟨h.acc.ds.add h5, by grind, by grind⟩, by grind⟩
theorem Su.pr : ∀ {M : Nat} {qs : List Rat} {a : Rat}, Su M qs a → Pr M (a + qsum qs)
  | M, [], a, h => by
    have := h.acc
    rwa [qsum_nil, Rat.add_zero]
  | M, q :: qs, a, h => by
    have := h.tail.2.pr
    rwa [qsum_cons, ← Rat.add_assoc]
/-! ### 45. sources by map -/
theorem enD_map {α : Type} {f : α → D} {xs : List α} : enD (xs.map f) = xs.zipIdx.map fun p => .tup [.int (p.2 : Nat), f p.1] := by
  unfold enD
  rw [List.zipIdx_map, List.map_map]
  rfl
theorem zpD_map {α β : Type} {f : α → D} {g : β → D} {xs : List α} {ys : List β} : zpD (xs.map f) (ys.map g) = (xs.zip ys).map fun p => .tup [f p.1, g p.2] := by
  unfold zpD
  rw [List.zip_map, List.map_map]
  rfl
@[simp] theorem rgD_zero {n : Nat} : rgD 0 n = (List.range n).map fun i => D.int (i : Nat) := by
  unfold rgD
  simp
/-- a turn at which nothing stays behind -/
theorem for_same {β : Type} {vs : List Nat} {b : D → Ro → Option Ro} {body : Fs} (enc : β → D) {ρ ρ0 : Ro} {xs : List β} (h0 : wipeR ρ vs = ρ0) (hs : ∀ x ∈ xs, Turn vs b body (enc x) ρ0 ρ0) : forGo vs b body (xs.map enc) ρ = .nx ρ0 := by
  have := for_fold (vs := vs) (b := b) (body := body) enc (fun _ : Unit => ρ0) (fun a _ => a) (fun ys _ => ∀ y ∈ ys, y ∈ xs) (fun x ys a h => ⟨hs x (h x (List.mem_cons_self ..)), fun y hy => h y (List.mem_cons_of_mem x hy)⟩) xs () ρ h0 fun _ h => h
  exact this.1
theorem for_same' {β : Type} {vs : List Nat} {b : D → Ro → Option Ro} {body : Fs} {enc : β → D} {ρ : Ro} {xs : List β} (hs : ∀ x ∈ xs, Turn vs b body (enc x) (wipeR ρ vs) (wipeR ρ vs)) : forGo vs b body (xs.map enc) ρ = .nx (wipeR ρ vs) := for_same enc rfl hs
@[simp] theorem ixN_nat {n k : Nat} : L2.ixN n (k : Int) = if k < n then some k else none := by
  unfold L2.ixN
  rw [if_pos (Int.natCast_nonneg k)]
  by_cases h : k < n
  · rw [if_pos (by omega), if_pos h]; rfl
  · rw [if_neg (by omega), if_neg h]
@[simp] theorem toNat_add2 {a b : Nat} : ((a : Int) + (b : Int)).toNat = a + b := by omega
/-! ### 46. rows of shares -/
def rowD (N : Nat) (f : Nat → Rat) : List D := (List.range N).map fun j => Sh (f j)
def mD (R N : Nat) (A : Nat → Nat → Rat) : List (List D) := (List.range R).map fun i => rowD N (A i)
@[simp] theorem rowD_length {N : Nat} {f : Nat → Rat} : (rowD N f).length = N := by simp [rowD]
@[simp] theorem mD_length {R N : Nat} {A : Nat → Nat → Rat} : (mD R N A).length = R := by simp [mD]
theorem rowD_get {N j : Nat} {f : Nat → Rat} (h : j < N) : (rowD N f)[j]? = some (Sh (f j)) := by simp [rowD, h]
theorem mD_get {R N i : Nat} {A : Nat → Nat → Rat} (h : i < R) : (mD R N A)[i]? = some (rowD N (A i)) := by simp [mD, h]
@[simp] theorem rowD_at {N j : Nat} {f : Nat → Rat} (h : j < (rowD N f).length) : (rowD N f)[j] = Sh (f j) := by simp [rowD]
@[simp] theorem mD_at {R N i : Nat} {A : Nat → Nat → Rat} (h : i < (mD R N A).length) : (mD R N A)[i] = rowD N (A i) := by simp [mD]
theorem rowD_set {N j : Nat} {f : Nat → Rat} {v : Rat} : (rowD N f).set j (Sh v) = rowD N fun k => if k = j then v else f k := by
  refine List.ext_getElem? fun k => ?_
  rw [List.getElem?_set]
  unfold rowD
  rw [List.length_map, List.length_range, List.getElem?_map, List.getElem?_map]
  by_cases e : j = k
  · subst e
    by_cases h : j < N <;> simp [h]
  · have e' : ¬ k = j := fun z => e z.symm
    by_cases h : k < N <;> simp [h, e, e']
theorem mD_set {R N i : Nat} {A : Nat → Nat → Rat} {g : Nat → Rat} : (mD R N A).set i (rowD N g) = mD R N fun k => if k = i then g else A k := by
  refine List.ext_getElem? fun k => ?_
  rw [List.getElem?_set]
  unfold mD
  rw [List.length_map, List.length_range, List.getElem?_map, List.getElem?_map]
  by_cases e : i = k
  · subst e
    by_cases h : i < R <;> simp [h]
  · have e' : ¬ k = i := fun z => e z.symm
    by_cases h : k < R <;> simp [h, e, e']
theorem rep_row {N : Nat} : List.replicate N (D.tup [.int 0, .int 1]) = rowD N fun _ => 0 := by
  refine List.ext_getElem? fun k => ?_
  unfold rowD
  rw [List.getElem?_replicate, List.getElem?_map]
  by_cases h : k < N
  · simp [h]
  · simp [h]
section
variable {β : Type} {vs : List Nat} {b : D → Ro → Option Ro}
theorem lm_map {te : Fr (List D)} (enc : β → D) (g : β → List D) {ρ : Ro} : ∀ (xs : List β) (acc : List (List D)),
    (∀ x ∈ xs, ∃ ρ2 ρ4, b (enc x) ρ = some ρ2 ∧ te ρ2 = .ok (g x) ρ4 ∧ wipeR ρ4 vs = ρ) → lmGo vs b fYes te (xs.map enc) acc ρ = some (acc ++ xs.map g, ρ)
  | [], acc, _ => by simp [lmGo]
  | x :: xs, acc, h => by
    obtain ⟨ρ2, ρ4, h1, h2, h3⟩ := h x (List.mem_cons_self ..)
    rw [List.map_cons]
    unfold lmGo
    simp only [h1, h2, h3, fYes, lm_map enc g xs _ fun y hy => h y (List.mem_cons_of_mem _ hy)]
    simp
end
theorem qsum_filter_le {α : Type} {f : α → Rat} {P Q : α → Bool} : ∀ {xs : List α}, (∀ x ∈ xs, 0 ≤ f x) → (∀ x ∈ xs, P x = true → Q x = true) → qsum ((xs.filter P).map f) ≤ qsum ((xs.filter Q).map f)
  | [], _, _ => by simp
  | x :: xs, h, hi => by
    have ih := qsum_filter_le (xs := xs) (f := f) (P := P) (Q := Q) (fun y hy => h y (List.mem_cons_of_mem x hy)) fun y hy => hi y (List.mem_cons_of_mem x hy)
    have hx := h x (List.mem_cons_self ..)
    by_cases hp : P x = true
    · rw [List.filter_cons_of_pos hp, List.filter_cons_of_pos (hi x (List.mem_cons_self ..) hp)]
      simp
      grind
    · rw [List.filter_cons_of_neg hp]
      by_cases hq : Q x = true
      · rw [List.filter_cons_of_pos hq]
        simp
        grind
      · rw [List.filter_cons_of_neg hq]
        exact ih
@[simp] theorem cut_hi {xs : List D} {k : Nat} : cutD xs none (some (k : Int)) = xs.take k := by
  unfold cutD
  rw [HT.sIx_nat, HT.sIx_none, List.drop_zero, Nat.sub_zero]
  by_cases h : k ≤ xs.length
  · rw [Nat.min_eq_left h]
  · rw [Nat.min_eq_right (by omega), List.take_length, List.take_of_length_le (by omega)]
@[simp] theorem cut_lo {xs : List D} {k : Nat} : cutD xs (some (k : Int)) none = xs.drop k := by
  unfold cutD
  rw [HT.sIx_nat, HT.sIx_none]
  by_cases h : k ≤ xs.length
  · rw [Nat.min_eq_left h, List.take_of_length_le (by simp)]
  · rw [Nat.min_eq_right (by omega), List.drop_length, List.drop_of_length_le (by omega)]
    simp
/-! ### 47. sums over the first ones -/
def rs : Nat → (Nat → Rat) → Rat
  | 0, _ => 0
  | n + 1, f => rs n f + f n
theorem rs_congr : ∀ {n : Nat} {f g : Nat → Rat}, (∀ i, i < n → f i = g i) → rs n f = rs n g
  | 0, _, _, _ => rfl
  | n + 1, f, g, h => by
    unfold rs
    rw [rs_congr (n := n) fun i hi => h i (by omega), h n (by omega)]
theorem rs_add : ∀ {n : Nat} {f g : Nat → Rat}, (rs n fun i => f i + g i) = rs n f + rs n g
  | 0, _, _ => by simp [rs, Rat.add_zero]
  | n + 1, f, g => by
    unfold rs
    rw [rs_add]
    grind
theorem rs_mul : ∀ {n : Nat} {c : Rat} {f : Nat → Rat}, (rs n fun i => c * f i) = c * rs n f
  | 0, _, _ => by simp [rs]
  | n + 1, c, f => by
    unfold rs
    rw [rs_mul]
    grind
theorem rs_mul' {n : Nat} {c : Rat} {f : Nat → Rat} : (rs n fun i => f i * c) = rs n f * c := by
  rw [Rat.mul_comm, ← rs_mul]
  exact rs_congr fun i _ => Rat.mul_comm _ _
theorem rs_zero : ∀ {n : Nat}, (rs n fun _ => 0) = 0
  | 0 => rfl
  | n + 1 => by
    unfold rs
    rw [rs_zero, Rat.add_zero]
theorem rs_comm : ∀ {n m : Nat} {f : Nat → Nat → Rat}, (rs n fun i => rs m fun j => f i j) = rs m fun j => rs n fun i => f i j
  | 0, m, f => by
    show (0 : Rat) = rs m fun j => 0
    exact rs_zero.symm
  | n + 1, m, f => by
    show (rs n fun i => rs m fun j => f i j) + rs m (fun j => f n j) = rs m fun j => (rs n fun i => f i j) + f n j
    rw [rs_add, rs_comm]
theorem rs_le : ∀ {n : Nat} {f g : Nat → Rat}, (∀ i, i < n → f i ≤ g i) → rs n f ≤ rs n g
  | 0, _, _, _ => by unfold rs; exact Rat.le_refl
  | n + 1, f, g, h => by
    unfold rs
    have h1 := rs_le (n := n) fun i hi => h i (by omega)
    have h2 := h n (by omega)
    grind
theorem rs_nonneg {n : Nat} {f : Nat → Rat} (h : ∀ i, i < n → 0 ≤ f i) : 0 ≤ rs n f := by
  have := rs_le (f := fun _ => 0) h
  rwa [rs_zero] at this
theorem rs_one : ∀ {n : Nat} {f : Nat → Rat} {k : Nat}, k < n → (∀ i, i < n → i ≠ k → f i = 0) → rs n f = f k
  | 0, _, _, h, _ => by omega
  | n + 1, f, k, h, hz => by
    unfold rs
    by_cases e : k = n
    · subst e
      rw [rs_congr (g := fun _ => 0) fun i hi => hz i (by omega) (by omega), rs_zero, Rat.zero_add]
    · rw [rs_one (n := n) (k := k) (by omega) fun i hi ne => hz i (by omega) ne, hz n (by omega) (by omega), Rat.add_zero]
theorem rs_app {n : Nat} {f : Nat → Rat} : ∀ {m : Nat}, rs (n + m) f = rs n f + rs m fun i => f (n + i)
  | 0 => by simp [rs, Rat.add_zero]
  | m + 1 => by
    show rs (n + m) f + f (n + m) = rs n f + (rs m (fun i => f (n + i)) + f (n + m))
    rw [rs_app, Rat.add_assoc]
/-- one part of a sum of parts -/
theorem rs_part {n k : Nat} {f : Nat → Rat} (hk : k < n) (h : ∀ i, i < n → 0 ≤ f i) : f k ≤ rs n f := by
  have h1 := rs_le (n := n) (f := fun i => if i = k then f k else 0) (g := f) fun i hi => by
    by_cases e : i = k
    · subst e; simp
    · simp [e]; exact h i hi
  rw [rs_one hk (fun i _ e => by simp [e])] at h1
  simpa using h1
theorem foldl_rs {g : Nat → Nat → Rat} : ∀ {n : Nat} {l : Nat → Rat}, (List.range n).foldl (fun l s => fun e => l e + g s e) l = fun e => l e + rs n fun s => g s e
  | 0, l => by simp [rs, Rat.add_zero]
  | n + 1, l => by
    rw [List.range_succ, List.foldl_append, foldl_rs]
    funext e
    simp [rs, Rat.add_assoc]
theorem qsum_rs {f : Nat → Rat} : ∀ {n : Nat}, qsum ((List.range n).map f) = rs n f
  | 0 => rfl
  | n + 1 => by
    rw [List.range_succ, List.map_append, qsum_app, qsum_rs]
    simp [rs, Rat.add_zero]
theorem foldl_count {β : Type} : ∀ {xs : List β} {a : Nat}, xs.foldl (fun a _ => a + 1) a = a + xs.length
  | [], a => rfl
  | x :: xs, a => by
    rw [List.foldl_cons, foldl_count, List.length_cons]
    omega
/-! ### 48. chances behind so many steps -/
/-- rows of chances: so many parts of one in M, no row beyond one -/
structure Mat (M R N : Nat) (A : Nat → Nat → Rat) : Prop where
  ds : ∀ i j, i < R → j < N → Ds M (A i j)
  lo : ∀ i j, i < R → j < N → 0 ≤ A i j
  hi : ∀ i, i < R → rs N (A i) ≤ 1
structure Vec (M N : Nat) (h : Nat → Rat) : Prop where
  ds : ∀ j, j < N → Ds M (h j)
  lo : ∀ j, j < N → 0 ≤ h j
  hi : rs N h ≤ 1
theorem Vec.pr {M N j : Nat} {h : Nat → Rat} (v : Vec M N h) (hj : j < N) : Pr M (h j) := ⟨v.ds j hj, v.lo j hj, Rat.le_trans (rs_part hj v.lo) v.hi⟩
theorem Mat.row {M R N i : Nat} {A : Nat → Nat → Rat} (a : Mat M R N A) (hi : i < R) : Vec M N (A i) := ⟨fun j hj => a.ds i j hi hj, fun j hj => a.lo i j hi hj, a.hi i hi⟩
def nx (R : Nat) (A : Nat → Nat → Rat) (h : Nat → Rat) : Nat → Rat := fun e => (if e < R then 0 else h e) + rs R fun s => h s * A s e
def it (R : Nat) (A : Nat → Nat → Rat) : Nat → (Nat → Rat) → Nat → Rat
  | 0, h => h
  | n + 1, h => nx R A (it R A n h)
def dl (r : Nat) : Nat → Rat := fun e => if e = r then 1 else 0
theorem rs_tail {R : Nat} {h : Nat → Rat} : ∀ {O : Nat}, (rs (R + O) fun e => if e < R then 0 else h e) + rs R h = rs (R + O) h
  | 0 => by
    show rs R _ + rs R h = rs R h
    rw [rs_congr (g := fun _ => 0) fun i hi => by simp [hi], rs_zero, Rat.zero_add]
  | O + 1 => by
    show (rs (R + O) _ + (if R + O < R then 0 else h (R + O))) + rs R h = rs (R + O) h + h (R + O)
    rw [if_neg (by omega)]
    have e := rs_tail (R := R) (h := h) (O := O)
    grind
theorem Ds.up {M N : Nat} {q : Rat} (h : Ds M q) (d : M ∣ N) : Ds N q := by
  obtain ⟨k, e⟩ := d
  subst e
  have e1 : Ds k 1 := (Pr.one (M := k)).ds
  have := h.mul e1
  rwa [Rat.mul_one] at this
theorem Ds.zero {M : Nat} : Ds M 0 := Pr.zero.ds
theorem Ds.rs {M : Nat} : ∀ {n : Nat} {f : Nat → Rat}, (∀ i, i < n → Ds M (f i)) → Ds M (rs n f)
  | 0, _, _ => Ds.zero
  | n + 1, f, h => (Ds.rs fun i hi => h i (by omega)).add (h n (by omega))
theorem nx_mass {M K R O : Nat} {A : Nat → Nat → Rat} {h : Nat → Rat} (a : Mat M R (R + O) A) (v : Vec K (R + O) h) : Dt.rs (R + O) (nx R A h) ≤ 1 := by
  have e1 : Dt.rs (R + O) (nx R A h) = (Dt.rs (R + O) fun e => if e < R then 0 else h e) + Dt.rs R fun s => h s * Dt.rs (R + O) (A s) := by
    unfold nx
    rw [rs_add, rs_comm]
    congr 1
    exact rs_congr fun s _ => rs_mul
  have e2 : (Dt.rs R fun s => h s * Dt.rs (R + O) (A s)) ≤ Dt.rs R h := rs_le fun s hs => by
    have h1 := Rat.mul_le_mul_of_nonneg_left (a.hi s hs) (v.lo s (by omega))
    rwa [Rat.mul_one] at h1
  have e3 := rs_tail (R := R) (h := h) (O := O)
  have e4 := v.hi
  grind
theorem nx_vec {M K R O : Nat} {A : Nat → Nat → Rat} {h : Nat → Rat} (a : Mat M R (R + O) A) (v : Vec K (R + O) h) : Vec (K * M) (R + O) (nx R A h) where
  ds := fun j hj => by
    refine Ds.add ?_ (Ds.rs fun i hi => (v.ds i (by omega)).mul (a.ds i j hi hj))
    split
    · exact .zero
    · exact (v.ds j hj).up (Nat.dvd_mul_right ..)
  lo := fun j hj => by
    have h1 : 0 ≤ Dt.rs R fun s => h s * A s j := rs_nonneg fun i hi => Rat.mul_nonneg (v.lo i (by omega)) (a.lo i j hi hj)
    have h2 : (0 : Rat) ≤ if j < R then 0 else h j := by
      split
      · exact Rat.le_refl
      · exact v.lo j hj
    unfold nx
    grind
  hi := nx_mass a v
theorem dl_vec {N r : Nat} (h : r < N) : Vec 1 N (dl r) where
  ds := fun j _ => by
    unfold dl
    split
    · exact Pr.one.ds
    · exact .zero
  lo := fun j _ => by
    unfold dl
    split <;> decide
  hi := by
    rw [rs_one h fun i _ e => by simp [dl, e]]
    simp [dl]
theorem it_vec {M R O r : Nat} {A : Nat → Nat → Rat} (a : Mat M R (R + O) A) (h : r < R + O) : ∀ n : Nat, Vec (M ^ n) (R + O) (it R A n (dl r))
  | 0 => dl_vec h
  | n + 1 => by
    rw [Nat.pow_succ]
    exact nx_vec a (it_vec a h n)
section
variable {β : Type} {vs : List Nat} {b : D → Ro → Option Ro} {body : Fs}
theorem for_ix (enc : β → D) : ∀ (xs : List β) (st : Nat → Ro) (ρ : Ro), wipeR ρ vs = st 0 → (∀ i x, xs[i]? = some x → Turn vs b body (enc x) (st i) (st (i + 1))) → forGo vs b body (xs.map enc) ρ = .nx (st xs.length)
  | [], st, ρ, h, _ => by
    show Sr.nx (wipeR ρ vs) = _
    rw [h]
    rfl
  | x :: xs, st, ρ, h, hs => by
    have t := hs 0 x rfl
    rw [← h] at t
    obtain ⟨ρ3, e3, q⟩ := forGo_turn (ds := xs.map enc) t
    rw [List.map_cons, q, for_ix enc xs (fun i => st (i + 1)) ρ3 e3 fun i y hy => hs (i + 1) y hy]
    rfl
theorem for_range {enc : Nat → D} {n : Nat} (st : Nat → Ro) {ρ : Ro} (h : wipeR ρ vs = st 0) (hs : ∀ i, i < n → Turn vs b body (enc i) (st i) (st (i + 1))) : forGo vs b body ((List.range n).map enc) ρ = .nx (st n) := by
  have := for_ix (vs := vs) (b := b) (body := body) enc (List.range n) st ρ h fun i x hx => by
    obtain ⟨h1, h2⟩ := List.getElem?_eq_some_iff.mp hx
    rw [List.length_range] at h1
    rw [List.getElem_range] at h2
    subst h2
    exact hs i h1
  rwa [List.length_range] at this
end
theorem zp_same {α : Type} {f g : α → D} {xs : List α} : zpD (xs.map f) (xs.map g) = xs.map fun a => .tup [f a, g a] := by
  unfold zpD
  rw [List.zip_map', List.map_map]
  rfl
theorem rowD_take {R N : Nat} {h : Nat → Rat} (hr : R ≤ N) : (rowD N h).take R = rowD R h := by
  unfold rowD
  rw [← List.map_take, List.take_range, Nat.min_eq_left hr]
theorem rowD_drop {R O : Nat} {h : Nat → Rat} : (rowD R fun _ => 0) ++ (rowD (R + O) h).drop R = rowD (R + O) fun e => if e < R then 0 else h e := by
  refine List.ext_getElem? fun k => ?_
  rw [List.getElem?_append, rowD_length, List.getElem?_drop]
  unfold rowD
  rw [List.getElem?_map, List.getElem?_map, List.getElem?_map]
  by_cases e : k < R
  · simp [e, show k < R + O by omega]
  · rw [if_neg e, show R + (k - R) = k by omega]
    by_cases h2 : k < R + O
    · simp [h2, e]
    · simp [h2]
theorem zp_rows {R N : Nat} {h : Nat → Rat} {A : Nat → Nat → Rat} : zpD (rowD R h) ((mD R N A).map .lst) = (List.range R).map fun s => .tup [Sh (h s), .lst (rowD N (A s))] := by
  unfold rowD mD
  rw [List.map_map, zp_same]
  rfl
theorem zp_row {N : Nat} {f g : Nat → Rat} : zpD (rowD N f) (rowD N g) = (List.range N).map fun j => .tup [Sh (f j), Sh (g j)] := by
  unfold rowD
  rw [zp_same]
theorem lc_all {β : Type} {vs : List Nat} {b : D → Ro → Option Ro} {te : Fr D} (enc : β → D) (g : β → D) {ρ : Ro} (xs : List β) (acc : List D)
    (h : ∀ x ∈ xs, ∃ ρ2 ρ4, b (enc x) ρ = some ρ2 ∧ te ρ2 = .ok (g x) ρ4 ∧ wipeR ρ4 vs = ρ) : lcGo vs b fYes te (xs.map enc) acc ρ = some (acc ++ xs.map g, ρ) := by
  have e : xs.filter (fun _ => true) = xs := List.filter_eq_self.mpr fun _ _ => rfl
  rw [lc_map enc (fun _ => true) g xs acc fun x hx => ?_, e]
  obtain ⟨ρ2, ρ4, h1, h2, h3⟩ := h x hx
  exact ⟨ρ2, ρ2, h1, rfl, (fun z => by cases z), fun _ => ⟨ρ4, h2, h3⟩⟩
theorem rowD_succ {n : Nat} {f : Nat → Rat} : rowD n f ++ [Sh (f n)] = rowD (n + 1) f := by
  unfold rowD
  rw [List.range_succ, List.map_append]
  rfl
theorem mD_succ {R N : Nat} {A : Nat → Nat → Rat} : (mD R N A).map D.lst ++ [.lst (rowD N (A R))] = (mD (R + 1) N A).map D.lst := by
  unfold mD
  rw [List.range_succ, List.map_append, List.map_append]
  rfl
theorem en_row {N : Nat} {f : Nat → Rat} : enD (rowD N f) = (List.range N).map fun j => .tup [.int (j : Nat), Sh (f j)] := by
  unfold rowD
  rw [enD_map]
  refine List.ext_getElem? fun k => ?_
  rw [List.getElem?_map, List.getElem?_zipIdx, List.getElem?_map]
  by_cases h : k < N
  · simp [h]
  · simp [h]
end Dt
namespace Dt
/-! ### 49. plain laws on chances behind steps -/
theorem it_add {R : Nat} {A : Nat → Nat → Rat} {h : Nat → Rat} {n : Nat} : ∀ {m : Nat}, it R A (n + m) h = it R A m (it R A n h)
  | 0 => rfl
  | m + 1 => by
    show nx R A (it R A (n + m) h) = nx R A (it R A m (it R A n h))
    rw [it_add]
theorem it_congr {R N : Nat} {A : Nat → Nat → Rat} {h g : Nat → Rat} (hr : R ≤ N) (q : ∀ e, e < N → h e = g e) : ∀ (m : Nat) (e : Nat), e < N → it R A m h e = it R A m g e
  | 0, e, he => q e he
  | m + 1, e, he => by
    show (if e < R then 0 else it R A m h e) + _ = (if e < R then 0 else it R A m g e) + _
    rw [it_congr hr q m e he, rs_congr fun s hs => by rw [it_congr hr q m s (by omega)]]
theorem it_lin {R N : Nat} {A : Nat → Nat → Rat} {c : Nat → Rat} {g : Nat → Nat → Rat} : ∀ (m e : Nat), it R A m (fun e => rs N fun t => c t * g t e) e = rs N fun t => c t * it R A m (g t) e
  | 0, e => rfl
  | m + 1, e => by
    have ih := it_lin (R := R) (N := N) (A := A) (c := c) (g := g) m
    show (if e < R then 0 else it R A m (fun e => rs N fun t => c t * g t e) e) + rs R (fun s => it R A m (fun e => rs N fun t => c t * g t e) s * A s e) = rs N fun t => c t * ((if e < R then 0 else it R A m (g t) e) + rs R fun s => it R A m (g t) s * A s e)
    have e1 : (rs N fun t => c t * ((if e < R then 0 else it R A m (g t) e) + rs R fun s => it R A m (g t) s * A s e)) = (rs N fun t => c t * (if e < R then 0 else it R A m (g t) e)) + rs N fun t => c t * rs R fun s => it R A m (g t) s * A s e := by
      rw [← rs_add]
      exact rs_congr fun t _ => Rat.mul_add ..
    rw [e1]
    congr 1
    · by_cases q : e < R
      · simp only [if_pos q, Rat.mul_zero, rs_zero]
      · simp only [if_neg q, ih]
    · have e2 : (rs N fun t => c t * rs R fun s => it R A m (g t) s * A s e) = rs N fun t => rs R fun s => c t * (it R A m (g t) s * A s e) := rs_congr fun t _ => rs_mul.symm
      rw [e2, rs_comm]
      refine rs_congr fun s _ => ?_
      rw [ih, ← rs_mul']
      exact rs_congr fun t _ => Rat.mul_assoc ..
theorem dl_sum {N e : Nat} {h : Nat → Rat} (he : e < N) : h e = rs N fun t => h t * dl t e := by
  rw [rs_one he fun i _ ne => by
    have : ¬ e = i := fun z => ne z.symm
    simp [dl, this]]
  simp [dl, Rat.mul_one]
theorem it_split {R N n m e : Nat} {A : Nat → Nat → Rat} {h : Nat → Rat} (hr : R ≤ N) (he : e < N) : it R A (n + m) h e = rs N fun t => it R A n h t * it R A m (dl t) e := by
  rw [it_add, it_congr hr (fun t ht => dl_sum (h := it R A n h) ht) m e he, it_lin]
theorem it_door {R t : Nat} {A : Nat → Nat → Rat} (ht : R ≤ t) : ∀ m : Nat, it R A m (dl t) = dl t
  | 0 => rfl
  | m + 1 => by
    show nx R A (it R A m (dl t)) = dl t
    rw [it_door ht m]
    funext e
    unfold nx
    rw [rs_congr (g := fun _ => 0) fun s hs => by simp [dl, show ¬ s = t by omega], rs_zero, Rat.add_zero]
    by_cases q : e < R
    · simp [q, dl, show ¬ e = t by omega]
    · simp [q]
/-- behind n + m steps: by where one is behind n -/
theorem ch_split {R O n m e : Nat} {A : Nat → Nat → Rat} {h : Nat → Rat} (he : e < R + O) :
    it R A (n + m) h e = (rs R fun t => it R A n h t * it R A m (dl t) e) + if R ≤ e then it R A n h e else 0 := by
  rw [it_split (Nat.le_add_right R O) he, rs_app]
  congr 1
  rw [rs_congr (g := fun i => it R A n h (R + i) * dl (R + i) e) fun i _ => by rw [it_door (by omega)]]
  by_cases q : R ≤ e
  · rw [if_pos q, rs_one (k := e - R) (by omega) fun i _ ne => by simp [dl, show ¬ e = R + i by omega]]
    simp [dl, show R + (e - R) = e by omega]
  · rw [if_neg q, rs_congr (g := fun _ => 0) fun i _ => by simp [dl, show ¬ e = R + i by omega], rs_zero]
/-- what is out stays out -/
theorem nx_grow {R N : Nat} {M K e : Nat} {A : Nat → Nat → Rat} {h : Nat → Rat} (hr : R ≤ N) (a : Mat M R N A) (v : Vec K N h) (he : R ≤ e) (heN : e < N) : h e ≤ nx R A h e := by
  unfold nx
  rw [if_neg (by omega)]
  have := rs_nonneg (n := R) (f := fun s => h s * A s e) fun i hi => Rat.mul_nonneg (v.lo i (by omega)) (a.lo i e hi heN)
  grind
theorem ch_grow {R O M r n e : Nat} {A : Nat → Nat → Rat} (a : Mat M R (R + O) A) (hr : r < R) (he : R ≤ e) (heN : e < R + O) : ∀ m : Nat, it R A n (dl r) e ≤ it R A (n + m) (dl r) e
  | 0 => Rat.le_refl
  | m + 1 => Rat.le_trans (ch_grow a hr he heN m) (nx_grow (Nat.le_add_right ..) a (it_vec a (by omega) (n + m)) he heN)
/-- never more than arrives -/
theorem ch_arrive {R O M e : Nat} {A : Nat → Nat → Rat} {x : Nat → Rat} (a : Mat M R (R + O) A) (he : R ≤ e) (heN : e < R + O) (x0 : ∀ r, r < R → 0 ≤ x r) (hx : ∀ r, r < R → x r = (rs R fun s => A r s * x s) + A r e) :
    ∀ (n r : Nat), r < R → it R A n (dl r) e ≤ x r
  | 0, r, hr => by
    show dl r e ≤ x r
    unfold dl
    rw [if_neg (by omega)]
    exact x0 r hr
  | n + 1, r, hr => by
    have h1 : it R A (n + 1) (dl r) e = (rs R fun t => it R A 1 (dl r) t * it R A n (dl t) e) + it R A 1 (dl r) e := by
      rw [Nat.add_comm, ch_split heN, if_pos he]
    have h2 : ∀ t, t < R + O → it R A 1 (dl r) t = A r t := fun t ht => by
      show (if t < R then 0 else dl r t) + (rs R fun s => dl r s * A s t) = A r t
      rw [rs_one hr fun i _ ne => by simp [dl, ne]]
      have h3 : (if t < R then (0 : Rat) else dl r t) = 0 := by
        by_cases q : t < R
        · rw [if_pos q]
        · rw [if_neg q]
          simp [dl, show ¬ t = r by omega]
      rw [h3]
      simp [dl, Rat.zero_add]
    rw [h1, hx r hr, h2 e heN]
    have h4 : (rs R fun t => it R A 1 (dl r) t * it R A n (dl t) e) ≤ rs R fun s => A r s * x s := rs_le fun t ht => by
      rw [h2 t (by omega)]
      exact Rat.mul_le_mul_of_nonneg_left (ch_arrive a he heN x0 hx n t ht) (a.lo r t hr (by omega))
    grind
end Dt
namespace Dt
/-! ### 50. rows of whole numbers, solved -/
/-- what the rows of B send to nothing -/
def Ker (n w : Nat) (B : Nat → Nat → Int) (y : Nat → Rat) : Prop := ∀ i, i < n → (rs w fun j => (B i j : Rat) * y j) = 0
def swp (a b : Nat) (B : Nat → Nat → Int) : Nat → Nat → Int := fun i => if i = b then B a else if i = a then B b else B i
theorem swp_at {a b i : Nat} {B : Nat → Nat → Int} : ∃ k, swp a b B i = B k ∧ (k = i ∨ k = a ∨ k = b) := by
  unfold swp
  by_cases h : i = b
  · exact ⟨a, by rw [if_pos h], .inr (.inl rfl)⟩
  · by_cases g : i = a
    · exact ⟨b, by rw [if_neg h, if_pos g], .inr (.inr rfl)⟩
    · exact ⟨i, by rw [if_neg h, if_neg g], .inl rfl⟩
theorem Ker.swp {n w a b : Nat} {B : Nat → Nat → Int} {y : Nat → Rat} (ha : a < n) (hb : b < n) : Ker n w (swp a b B) y ↔ Ker n w B y := by
  have one : ∀ {C : Nat → Nat → Int}, Ker n w C y → Ker n w (Dt.swp a b C) y := fun {C} h i hi => by
    obtain ⟨k, e, q⟩ := swp_at (a := a) (b := b) (i := i) (B := C)
    rw [e]
    exact h k (by rcases q with rfl | rfl | rfl <;> assumption)
  refine ⟨fun h => ?_, one⟩
  have two := one h
  have e : Dt.swp a b (Dt.swp a b B) = B := by
    funext i
    unfold Dt.swp
    by_cases h1 : i = b
    · subst h1
      by_cases h2 : i = a
      · subst h2; simp
      · simp [h2]
        intro z
        exact absurd z.symm h2
    · by_cases h2 : i = a
      · subst h2; simp [h1]
      · simp [h1, h2]
  rwa [e] at two
/-- a row's multiple -/
def Mul (w : Nat) (r r' : Nat → Int) : Prop := ∃ q : Rat, q ≠ 0 ∧ ∀ j, j < w → (r' j : Rat) = q * (r j : Rat)
/-- row i taken less so much of row s, the rest kept -/
structure Elim (n w s i : Nat) (B B' : Nat → Nat → Int) : Prop where
  row : Mul w (fun j => B i j * B s s - B s j * B i s) (B' i)
  rest : ∀ k, k ≠ i → B' k = B k
theorem Elim.sum {n w s i : Nat} {B B' : Nat → Nat → Int} (e : Elim n w s i B B') {y : Nat → Rat} : ∃ q : Rat, q ≠ 0 ∧ (rs w fun j => (B' i j : Rat) * y j) = q * ((B s s : Rat) * (rs w fun j => (B i j : Rat) * y j) - (B i s : Rat) * rs w fun j => (B s j : Rat) * y j) := by
  obtain ⟨q, hq, h⟩ := e.row
  refine ⟨q, hq, ?_⟩
  rw [rs_congr fun j hj => by rw [h j hj], ← rs_mul, Rat.sub_eq_add_neg, ← Rat.neg_mul, ← rs_mul, ← rs_add, ← rs_mul]
  refine rs_congr fun j _ => ?_
  have e1 : ((B i j * B s s - B s j * B i s : Int) : Rat) = (B i j : Rat) * (B s s : Rat) - (B s j : Rat) * (B i s : Rat) := by
    rw [Rat.intCast_sub, Rat.intCast_mul, Rat.intCast_mul]
  rw [e1]
  grind
theorem Elim.ker {n w s i : Nat} {B B' : Nat → Nat → Int} (e : Elim n w s i B B') (hs : s < n) (hi : i < n) (ne : i ≠ s) (p : B s s ≠ 0) {y : Nat → Rat} : Ker n w B' y ↔ Ker n w B y := by
  obtain ⟨q, hq, hsum⟩ := e.sum (y := y)
  have p' : (B s s : Rat) ≠ 0 := by exact_mod_cast p
  constructor
  · intro h k hk
    by_cases c : k = i
    · subst c
      have h1 := h k hk
      have h2 := h s hs
      rw [e.rest s (Ne.symm ne)] at h2
      rw [hsum, h2] at h1
      grind
    · have h1 := h k hk
      rwa [e.rest k c] at h1
  · intro h k hk
    by_cases c : k = i
    · subst c
      rw [hsum, h k hk, h s hs]
      grind
    · rw [e.rest k c]
      exact h k hk
/-- columns ahead of s cleared -/
structure Clr (n s : Nat) (B : Nat → Nat → Int) : Prop where
  dia : ∀ j, j < s → B j j ≠ 0
  off : ∀ i j, i < n → j < s → i ≠ j → B i j = 0
/-- no vector over the first n but nothing is sent to nothing -/
def Inj (n w : Nat) (B : Nat → Nat → Int) : Prop := ∀ y : Nat → Rat, (∀ j, n ≤ j → y j = 0) → Ker n w B y → ∀ j, j < n → y j = 0
/-- there is a row to go on with -/
theorem Clr.pivot {n w s : Nat} {B : Nat → Nat → Int} (c : Clr n s B) (hs : s < n) (hw : n ≤ w) (inj : Inj n w B) : ∃ i, s ≤ i ∧ i < n ∧ B i s ≠ 0 := by
  refine Classical.byContradiction fun no => ?_
  have z : ∀ i, s ≤ i → i < n → B i s = 0 := fun i h1 h2 => Classical.byContradiction fun h => no ⟨i, h1, h2, h⟩
  have h1 := inj (fun j => if j = s then 1 else if j < s then -((B j s : Rat) / (B j j : Rat)) else 0) (fun j hj => by simp [show ¬ j = s by omega, show ¬ j < s by omega]) (fun i hi => ?_) s hs
  · simp at h1
  · have hsw : s < w := by omega
    by_cases q : i < s
    · -- two parts: at i and at s
      have p : (B i i : Rat) ≠ 0 := by exact_mod_cast c.dia i q
      have e : (rs w fun j => (B i j : Rat) * (if j = s then 1 else if j < s then -((B j s : Rat) / (B j j : Rat)) else 0)) = (rs w fun j => (if j = s then (B i s : Rat) else 0)) + rs w fun j => if j = i then -(B i s : Rat) else 0 := by
        rw [← rs_add]
        refine rs_congr fun j hj => ?_
        by_cases e1 : j = s
        · subst e1
          simp [show ¬ j = i by omega, Rat.add_zero]
        · by_cases e2 : j = i
          · subst e2
            simp [e1, q]
            grind
          · by_cases e3 : j < s
            · have : (B i j : Rat) = 0 := by exact_mod_cast c.off i j hi e3 (Ne.symm e2)
              simp [e1, e2, this, Rat.add_zero]
            · simp [e1, e2, e3, Rat.add_zero]
      rw [e, rs_one hsw fun j _ ne => by simp [ne], rs_one (k := i) (by omega) fun j _ ne => by simp [ne]]
      simp
      grind
    · have zz : (B i s : Rat) = 0 := by exact_mod_cast z i (by omega) hi
      rw [rs_congr (g := fun _ => 0) fun j hj => ?_, rs_zero]
      by_cases e1 : j = s
      · subst e1; simp [zz]
      · by_cases e3 : j < s
        · have : (B i j : Rat) = 0 := by exact_mod_cast c.off i j hi e3 (by omega)
          simp [this]
        · simp [e1, e3]
theorem Clr.swp {n s a b : Nat} {B : Nat → Nat → Int} (c : Clr n s B) (ha : s ≤ a) (hb : s ≤ b) (han : a < n) (hbn : b < n) : Clr n s (swp a b B) where
  dia := fun j hj => by
    have e : Dt.swp a b B j = B j := by
      unfold Dt.swp
      rw [if_neg (by omega), if_neg (by omega)]
    rw [e]
    exact c.dia j hj
  off := fun i j hi hj ne => by
    unfold Dt.swp
    by_cases h1 : i = b
    · rw [if_pos h1]
      exact c.off a j han hj (by omega)
    · by_cases h2 : i = a
      · rw [if_neg h1, if_pos h2]
        exact c.off b j hbn hj (by omega)
      · rw [if_neg h1, if_neg h2]
        exact c.off i j hi hj ne
/-- ahead of row k, at column s -/
structure Col (n w s k : Nat) (C B : Nat → Nat → Int) : Prop where
  piv : B s = C s
  pz : B s s ≠ 0
  done : ∀ i, i < k → i < n → i ≠ s → B i s = 0
  clr : Clr n s B
  ker : ∀ y, Ker n w B y ↔ Ker n w C y
theorem Col.skip {n w s k : Nat} {C B : Nat → Nat → Int} (c : Col n w s k C B) (h : k = s ∨ B k s = 0) : Col n w s (k + 1) C B :=
  ⟨c.piv, c.pz, fun i hi hn ne => by
    by_cases e : i = k
    · subst e
      rcases h with h | h
      · exact absurd h ne
      · exact h
    · exact c.done i (by omega) hn ne, c.clr, c.ker⟩
theorem Col.elim {n w s k : Nat} {C B B' : Nat → Nat → Int} (c : Col n w s k C B) (hs : s < n) (hsw : n ≤ w) (hk : k < n) (ne : k ≠ s) (e : Elim n w s k B B') : Col n w s (k + 1) C B' where
  piv := by rw [e.rest s (Ne.symm ne), c.piv]
  pz := by rw [e.rest s (Ne.symm ne)]; exact c.pz
  done := fun i hi hn ne' => by
    by_cases q : i = k
    · subst q
      obtain ⟨q, _, h⟩ := e.row
      have h1 := h s (by omega)
      have h2 : ((B i s * B s s - B s s * B i s : Int) : Rat) = 0 := by
        rw [Int.mul_comm, Int.sub_self]
        rfl
      rw [h2, Rat.mul_zero] at h1
      exact_mod_cast h1
    · rw [e.rest i q]
      exact c.done i (by omega) hn ne'
  clr :=
    { dia := fun j hj => by
        by_cases q : j = k
        · subst q
          obtain ⟨q, hq, h⟩ := e.row
          have h1 : (B' j j : Rat) = q * ((B j j * B s s - B s j * B j s : Int) : Rat) := h j (by omega)
          have h3 := c.clr.off s j hs hj (by omega)
          rw [h3, Int.zero_mul, Int.sub_zero, Rat.intCast_mul] at h1
          have p1 : (B j j : Rat) ≠ 0 := by exact_mod_cast c.clr.dia j hj
          have p2 : (B s s : Rat) ≠ 0 := by exact_mod_cast c.pz
          intro z
          rw [z] at h1
          have h4 : q * ((B j j : Rat) * (B s s : Rat)) = 0 := by
            rw [← h1]
            rfl
          grind
        · rw [e.rest j q]
          exact c.clr.dia j hj
      off := fun i j hi hj nij => by
        by_cases q : i = k
        · subst q
          obtain ⟨q, hq, h⟩ := e.row
          have h1 : (B' i j : Rat) = q * ((B i j * B s s - B s j * B i s : Int) : Rat) := h j (by omega)
          rw [c.clr.off i j hi hj nij, c.clr.off s j hs hj (by omega)] at h1
          simp at h1
          exact h1
        · rw [e.rest i q]
          exact c.clr.off i j hi hj nij }
  ker := fun y => (e.ker hs hk ne c.pz).trans (c.ker y)
theorem Col.next {n w s : Nat} {C B : Nat → Nat → Int} (c : Col n w s n C B) : Clr n (s + 1) B where
  dia := fun j hj => by
    by_cases e : j = s
    · subst e; exact c.pz
    · exact c.clr.dia j (by omega)
  off := fun i j hi hj ne => by
    by_cases e : j = s
    · subst e; exact c.done i hi hi ne
    · exact c.clr.off i j hi (by omega) ne
theorem Inj.of {n w : Nat} {C B : Nat → Nat → Int} (h : Inj n w C) (k : ∀ y, Ker n w B y ↔ Ker n w C y) : Inj n w B := fun y z q => h y z ((k y).mp q)
/-- what the last rows tell: of the first rows B0 the answers to column c -/
theorem Clr.solves {n w c : Nat} {B : Nat → Nat → Int} (h : Clr n n B) (hc : n ≤ c) (hw : c < w) : Ker n w B fun j => if j < n then (B j c : Rat) / (B j j : Rat) else if j = c then -1 else 0 := by
  intro i hi
  have p : (B i i : Rat) ≠ 0 := by exact_mod_cast h.dia i hi
  have e : (rs w fun j => (B i j : Rat) * (if j < n then (B j c : Rat) / (B j j : Rat) else if j = c then -1 else 0)) = (rs w fun j => (if j = i then (B i c : Rat) else 0)) + rs w fun j => if j = c then -(B i c : Rat) else 0 := by
    rw [← rs_add]
    refine rs_congr fun j hj => ?_
    by_cases e1 : j < n
    · by_cases e2 : j = i
      · subst e2
        simp [e1, show ¬ j = c by omega, Rat.add_zero]
        grind
      · have : (B i j : Rat) = 0 := by exact_mod_cast h.off i j hi e1 (Ne.symm e2)
        simp [e1, e2, this, show ¬ j = c by omega, Rat.add_zero]
    · by_cases e2 : j = c
      · subst e2
        simp [e1, show ¬ j = i by omega, Rat.zero_add]
        grind
      · simp [e1, e2, show ¬ j = i by omega, Rat.add_zero]
  rw [e, rs_one (k := i) (by omega) fun j _ ne => by simp [ne], rs_one hw fun j _ ne => by simp [ne]]
  simp
  grind
end Dt
namespace Dt
/-! ### 51. rooms that lead to an aim; nothing below 0 -/
/-- rooms found one behind the other: each leads to the aim or to one found ahead of it -/
inductive Led (A : Nat → Nat → Rat) (e R : Nat) : List Nat → Prop
  | nil : Led A e R []
  | snoc {l : List Nat} {r t : Nat} : Led A e R l → r < R → r ∉ l → A r t ≠ 0 → (t = e ∨ t ∈ l) → t < R ∨ t = e → Led A e R (l ++ [r])
theorem Led.lt {A : Nat → Nat → Rat} {e R : Nat} {l : List Nat} (h : Led A e R l) : ∀ r ∈ l, r < R := by
  induction h with
  | nil => intro r hr; cases hr
  | snoc _ hr _ _ _ _ ih =>
    intro s hs
    rcases List.mem_append.mp hs with hs | hs
    · exact ih s hs
    · rcases List.mem_singleton.mp hs with rfl
      exact hr
theorem Led.nodup {A : Nat → Nat → Rat} {e R : Nat} {l : List Nat} (h : Led A e R l) : l.Nodup := by
  induction h with
  | nil => exact List.nodup_nil
  | snoc _ _ hn _ _ _ ih =>
    rw [List.nodup_append]
    refine ⟨ih, by simp, fun a ha b hb => ?_⟩
    rcases List.mem_singleton.mp hb with rfl
    intro z
    subst z
    exact hn ha
theorem nodup_len : ∀ {R : Nat} {l : List Nat}, l.Nodup → (∀ r ∈ l, r < R) → l.length ≤ R
  | 0, l, _, hl => by
    cases l with
    | nil => exact Nat.le_refl _
    | cons x l => exact absurd (hl x (List.mem_cons_self ..)) (by omega)
  | R + 1, l, h, hl => by
    by_cases c : R ∈ l
    · have := nodup_len (R := R) (h.erase R) fun r hr => by
        have h1 := hl r (List.mem_of_mem_erase hr)
        have h2 := (h.mem_erase_iff.mp hr).1
        omega
      rw [List.length_erase_of_mem c] at this
      omega
    · have := nodup_len (R := R) h fun r hr => by
        have h1 := hl r hr
        have : r ≠ R := fun z => c (z ▸ hr)
        omega
      omega
/-- a least one -/
theorem arg_min : ∀ (n : Nat) (f : Nat → Rat), ∃ k, k < n + 1 ∧ ∀ i, i < n + 1 → f k ≤ f i
  | 0, f => ⟨0, by omega, fun i hi => by rw [show i = 0 by omega]; exact Rat.le_refl⟩
  | n + 1, f => by
    obtain ⟨k, hk, h⟩ := arg_min n f
    by_cases c : f k ≤ f (n + 1)
    · refine ⟨k, by omega, fun i hi => ?_⟩
      by_cases e : i = n + 1
      · subst e; exact c
      · exact h i (by omega)
    · refine ⟨n + 1, by omega, fun i hi => ?_⟩
      have c' : f (n + 1) ≤ f k := Rat.le_of_lt (Rat.not_le.mp c)
      by_cases e : i = n + 1
      · subst e; exact Rat.le_refl
      · exact Rat.le_trans c' (h i (by omega))
theorem Led.above {M R N e : Nat} {A : Nat → Nat → Rat} (a : Mat M R N A) (hR : R ≤ N) (heN : e < N) {l : List Nat} (hl : Led A e R l) {f : Nat → Rat} {μ : Rat} (hμ : μ < 0) (lo : ∀ s, s < N → μ ≤ f s) (he : μ < f e)
    (hf : ∀ r ∈ l, f r = rs N fun s => A r s * f s) : ∀ r ∈ l, μ < f r := by
  induction hl with
  | nil => intro r hr; cases hr
  | @snoc l r t hl hr hn ne ht htl ih =>
    have ih := ih fun r hr => hf r (List.mem_append_left _ hr)
    intro s hs
    rcases List.mem_append.mp hs with hs | hs
    · exact ih s hs
    · rcases List.mem_singleton.mp hs with rfl
      have htN : t < N := by omega
      have g1 : μ < f t := by
        rcases ht with rfl | ht
        · exact he
        · exact ih t ht
      have g2 := rs_part (n := N) (k := t) (f := fun j => A s j * (f j - μ)) htN fun j hj => Rat.mul_nonneg (a.lo s j hr hj) (by have := lo j hj; grind)
      have g3 : (rs N fun j => A s j * (f j - μ)) + rs N (A s) * μ = rs N fun j => A s j * f j := by
        rw [← rs_mul', ← rs_add]
        exact rs_congr fun j _ => by grind
      have g4 : 0 < A s t := by
        have := a.lo s t hr htN
        grind
      have g5 : 0 < A s t * (f t - μ) := Rat.mul_pos g4 (by grind)
      have g6 := a.hi s hr
      have g7 : 0 ≤ (1 - rs N (A s)) * (-μ) := Rat.mul_nonneg (by grind) (by grind)
      rw [hf s (List.mem_append_right _ (List.mem_singleton.mpr rfl))]
      grind
/-- nothing below 0 -/
theorem Led.nonneg {M R N e : Nat} {A : Nat → Nat → Rat} (a : Mat M R N A) (hR : R ≤ N) (hRe : R ≤ e) (heN : e < N) {l : List Nat} (hl : Led A e R l) {f : Nat → Rat} (h0 : ∀ s, s < N → s ∉ l → 0 ≤ f s)
    (hf : ∀ r ∈ l, f r = rs N fun s => A r s * f s) : ∀ s, s < N → 0 ≤ f s := by
  obtain ⟨k, hk, hmin⟩ := arg_min (N - 1) f
  have hlo : ∀ s, s < N → f k ≤ f s := fun s hs => hmin s (by omega)
  by_cases c : 0 ≤ f k
  · exact fun s hs => Rat.le_trans c (hlo s hs)
  · have hμ := Rat.not_le.mp c
    have ke : k ∈ l := Classical.byContradiction fun z => c (h0 k (by omega) z)
    have ee : 0 ≤ f e := h0 e heN fun z => by have := hl.lt e z; omega
    have := hl.above a hR heN hμ hlo (by grind) hf k ke
    exact absurd this (by grind)
/-- so many rooms set -/
def up (ix : Nat → Nat) (x : Nat → Rat) : Nat → Nat → Rat
  | 0 => fun _ => 0
  | k + 1 => fun r => if r = ix k then x k else up ix x k r
theorem up_out {ix : Nat → Nat} {x : Nat → Rat} {r : Nat} : ∀ {k : Nat}, (∀ i, i < k → r ≠ ix i) → up ix x k r = 0
  | 0, _ => rfl
  | k + 1, h => by
    show (if r = ix k then x k else up ix x k r) = 0
    rw [if_neg (h k (by omega)), up_out fun i hi => h i (by omega)]
theorem up_in {ix : Nat → Nat} {x : Nat → Rat} {n : Nat} (inj : ∀ i j, i < n → j < n → ix i = ix j → i = j) : ∀ {k i : Nat}, k ≤ n → i < k → up ix x k (ix i) = x i
  | 0, i, _, h => by omega
  | k + 1, i, hk, hi => by
    show (if ix i = ix k then x k else up ix x k (ix i)) = x i
    by_cases e : i = k
    · subst e; simp
    · rw [if_neg fun z => e (inj i k (by omega) (by omega) z), up_in inj (by omega) (by omega)]
theorem rs_up {R : Nat} {ix : Nat → Nat} {x g : Nat → Rat} {n : Nat} (hix : ∀ i, i < n → ix i < R) (inj : ∀ i j, i < n → j < n → ix i = ix j → i = j) : ∀ {k : Nat}, k ≤ n → (rs R fun s => g s * up ix x k s) = rs k fun i => g (ix i) * x i
  | 0, _ => by
    show (rs R fun s => g s * 0) = 0
    simp [rs_zero]
  | k + 1, hk => by
    show _ = (rs k fun i => g (ix i) * x i) + g (ix k) * x k
    rw [← rs_up hix inj (k := k) (by omega)]
    have e1 : g (ix k) * x k = rs R fun s => if s = ix k then g (ix k) * x k else 0 := by
      rw [rs_one (hix k (by omega)) fun i _ ne => by simp [ne]]
      simp
    rw [e1, ← rs_add]
    refine rs_congr fun s _ => ?_
    show g s * (if s = ix k then x k else up ix x k s) = _
    by_cases e : s = ix k
    · have z : up ix x k s = 0 := up_out fun i hi q => by
        have := inj k i (by omega) (by omega) (e ▸ q)
        omega
      rw [z]
      subst e
      simp [Rat.zero_add]
    · simp [e, Rat.add_zero]
theorem up_neg {ix : Nat → Nat} {x : Nat → Rat} {r : Nat} : ∀ {k : Nat}, up ix (fun i => -x i) k r = -up ix x k r
  | 0 => by show (0 : Rat) = -0; decide
  | k + 1 => by
    show (if r = ix k then -x k else up ix (fun i => -x i) k r) = -(if r = ix k then x k else up ix x k r)
    rw [up_neg]
    split <;> rfl
/-- the rows of the arrivals -/
def arrE (ix : Nat → Nat) (A : Nat → Nat → Rat) (e n : Nat) : Nat → Nat → Rat := fun i j => if j < n then (if ix i = ix j then 1 else 0) - A (ix i) (ix j) else A (ix i) e
theorem arr_row {R : Nat} {ix : Nat → Nat} {A : Nat → Nat → Rat} {x : Nat → Rat} {e n i : Nat} (hix : ∀ i, i < n → ix i < R) (inj : ∀ i j, i < n → j < n → ix i = ix j → i = j) (hi : i < n) :
    (rs n fun j => arrE ix A e n i j * x j) = x i - rs R fun s => A (ix i) s * up ix x n s := by
  rw [rs_up hix inj (Nat.le_refl n)]
  have e1 : (rs n fun j => arrE ix A e n i j * x j) + (rs n fun j => A (ix i) (ix j) * x j) = rs n fun j => if j = i then x i else 0 := by
    rw [← rs_add]
    refine rs_congr fun j hj => ?_
    unfold arrE
    rw [if_pos hj]
    by_cases c : j = i
    · subst c
      simp
      grind
    · have : ¬ ix i = ix j := fun z => c (inj i j hi hj z).symm
      simp [c, this]
      grind
  rw [rs_one (f := fun j => if j = i then x i else 0) hi fun j _ ne => by simp [ne]] at e1
  simp at e1
  grind
theorem arr_eq {R : Nat} {ix : Nat → Nat} {A : Nat → Nat → Rat} {x : Nat → Rat} {e n : Nat} (hix : ∀ i, i < n → ix i < R) (inj : ∀ i j, i < n → j < n → ix i = ix j → i = j) (hx : ∀ i, i < n → (rs n fun j => arrE ix A e n i j * x j) = A (ix i) e)
    (cl : ∀ r, r < R → (∀ i, i < n → r ≠ ix i) → A r e = 0 ∧ ∀ i, i < n → A r (ix i) = 0) : ∀ r, r < R → up ix x n r = (rs R fun s => A r s * up ix x n s) + A r e := by
  intro r hr
  by_cases c : ∃ i, i < n ∧ r = ix i
  · obtain ⟨i, hi, rfl⟩ := c
    have h1 := hx i hi
    rw [arr_row hix inj hi] at h1
    rw [up_in inj (Nat.le_refl n) hi]
    grind
  · have c' : ∀ i, i < n → r ≠ ix i := fun i hi z => c ⟨i, hi, z⟩
    obtain ⟨h1, h2⟩ := cl r hr c'
    rw [up_out c', rs_up hix inj (Nat.le_refl n), rs_congr (g := fun _ => 0) fun i hi => by rw [h2 i hi, Rat.zero_mul], rs_zero, h1, Rat.add_zero]
theorem mem_ix {ix : Nat → Nat} {n r : Nat} : r ∈ (List.range n).map ix ↔ ∃ i, i < n ∧ r = ix i := by
  rw [List.mem_map]
  exact ⟨fun ⟨i, h, e⟩ => ⟨i, List.mem_range.mp h, e.symm⟩, fun ⟨i, h, e⟩ => ⟨i, List.mem_range.mpr h, e.symm⟩⟩
theorem arr_nonneg {M R O e n : Nat} {ix : Nat → Nat} {A : Nat → Nat → Rat} {x : Nat → Rat} {l : List Nat} (a : Mat M R (R + O) A) (he : R ≤ e) (heN : e < R + O) (hl : Led A e R l) (hm : ∀ r, r ∈ l ↔ ∃ i, i < n ∧ r = ix i)
    (inj : ∀ i j, i < n → j < n → ix i = ix j → i = j) (hx : ∀ i, i < n → (rs n fun j => arrE ix A e n i j * x j) = A (ix i) e) : ∀ r, 0 ≤ up ix x n r := by
  have hix : ∀ i, i < n → ix i < R := fun i hi => hl.lt _ ((hm _).mpr ⟨i, hi, rfl⟩)
  have key := hl.nonneg (f := fun s => if s = e then 1 else up ix x n s) a (Nat.le_add_right ..) he heN (fun s hs ns => by
    show 0 ≤ if s = e then 1 else up ix x n s
    split
    · decide
    · rw [up_out fun i hi z => ns ((hm s).mpr ⟨i, hi, z⟩)]
      decide) (fun r hr => by
    obtain ⟨i, hi, rfl⟩ := (hm r).mp hr
    have hlt := hix i hi
    show (if ix i = e then 1 else up ix x n (ix i)) = rs (R + O) fun s => A (ix i) s * if s = e then 1 else up ix x n s
    rw [if_neg (by omega), up_in inj (Nat.le_refl n) hi]
    have ze : up ix x n e = 0 := up_out fun j hj z => by have := hix j hj; omega
    have e1 : (rs (R + O) fun s => A (ix i) s * if s = e then 1 else up ix x n s) = (rs (R + O) fun s => A (ix i) s * up ix x n s) + rs (R + O) fun s => if s = e then A (ix i) e else 0 := by
      rw [← rs_add]
      refine rs_congr fun s _ => ?_
      by_cases c : s = e
      · subst c; rw [ze]; simp [Rat.zero_add]
      · simp [c, Rat.add_zero]
    rw [e1, rs_one (f := fun s => if s = e then A (ix i) e else 0) heN fun j _ ne => by simp [ne], rs_up (fun i hi => Nat.lt_of_lt_of_le (hix i hi) (Nat.le_add_right ..)) inj (Nat.le_refl n), ← rs_up hix inj (Nat.le_refl n)]
    have h1 := hx i hi
    rw [arr_row hix inj hi] at h1
    simp
    grind)
  intro r
  by_cases hr : r < R
  · have := key r (by omega)
    simpa [show ¬ r = e by omega] using this
  · rw [up_out fun i hi z => by have := hix i hi; omega]
    decide
theorem arr_inj {M R O e n : Nat} {ix : Nat → Nat} {A : Nat → Nat → Rat} {l : List Nat} (a : Mat M R (R + O) A) (he : R ≤ e) (heN : e < R + O) (hl : Led A e R l) (hm : ∀ r, r ∈ l ↔ ∃ i, i < n ∧ r = ix i)
    (inj : ∀ i j, i < n → j < n → ix i = ix j → i = j) : ∀ y : Nat → Rat, (∀ i, i < n → (rs n fun j => arrE ix A e n i j * y j) = 0) → ∀ j, j < n → y j = 0 := by
  have hix : ∀ i, i < n → ix i < R := fun i hi => hl.lt _ ((hm _).mpr ⟨i, hi, rfl⟩)
  have half : ∀ y : Nat → Rat, (∀ i, i < n → (rs n fun j => arrE ix A e n i j * y j) = 0) → ∀ j, j < n → 0 ≤ y j := by
    intro y hy j hj
    have key := hl.nonneg (f := up ix y n) a (Nat.le_add_right ..) he heN (fun s hs ns => by
      rw [up_out fun i hi z => ns ((hm s).mpr ⟨i, hi, z⟩)]
      decide) (fun r hr => by
      obtain ⟨i, hi, rfl⟩ := (hm r).mp hr
      rw [up_in inj (Nat.le_refl n) hi, rs_up (fun i hi => Nat.lt_of_lt_of_le (hix i hi) (Nat.le_add_right ..)) inj (Nat.le_refl n), ← rs_up hix inj (Nat.le_refl n)]
      have h1 := hy i hi
      rw [arr_row hix inj hi] at h1
      grind) (ix j) (by have := hix j hj; omega)
    rwa [up_in inj (Nat.le_refl n) hj] at key
  intro y hy j hj
  have h1 := half y hy j hj
  have h2 := half (fun j => -y j) (fun i hi => by
    have e1 : (rs n fun j => arrE ix A e n i j * -y j) = rs n fun j => (-1) * (arrE ix A e n i j * y j) := rs_congr fun j _ => by grind
    rw [e1, rs_mul, hy i hi, Rat.mul_zero]) j hj
  grind
end Dt
namespace Dt
/-! ### 52. shares made whole, row by row -/
def bot (E : Nat → Rat) : Nat → Nat
  | 0 => 1
  | k + 1 => Nat.lcm (bot E k) (E k).den
theorem bot_pos {E : Nat → Rat} : ∀ {k : Nat}, 0 < bot E k
  | 0 => Nat.zero_lt_one
  | k + 1 => Nat.lcm_pos bot_pos (E k).den_pos
theorem bot_dvd {M : Nat} {E : Nat → Rat} : ∀ {k : Nat}, (∀ j, j < k → (E j).den ∣ M) → bot E k ∣ M
  | 0, _ => Nat.one_dvd _
  | k + 1, h => Nat.lcm_dvd (bot_dvd fun j hj => h j (by omega)) (h k (by omega))
theorem den_bot {E : Nat → Rat} {j : Nat} : ∀ {k : Nat}, j < k → (E j).den ∣ bot E k
  | 0, h => by omega
  | k + 1, h => by
    by_cases e : j = k
    · subst e
      exact Nat.dvd_lcm_right ..
    · exact Nat.dvd_trans (den_bot (show j < k by omega)) (Nat.dvd_lcm_left ..)
def whole (w : Nat) (E : Nat → Rat) (j : Nat) : Int := (E j).num * ((bot E w / (E j).den : Nat) : Int)
theorem whole_eq {w j : Nat} {E : Nat → Rat} (hj : j < w) : (whole w E j : Rat) = (bot E w : Rat) * E j := by
  obtain ⟨k, e⟩ := den_bot (E := E) hj
  have h1 : bot E w / (E j).den = k := by
    rw [e, Nat.mul_div_cancel_left _ (E j).den_pos]
  have h2 : E j = ((E j).num : Rat) / ((E j).den : Rat) := by
    have := Rat.num_divInt_den (E j)
    rw [Rat.divInt_eq_div] at this
    exact this.symm
  have hd : ((E j).den : Rat) ≠ 0 := by
    intro c
    exact (E j).den_nz (by exact_mod_cast c)
  have h3 : ((whole w E j : Int) : Rat) = ((E j).num : Rat) * (k : Rat) := by
    unfold whole
    rw [h1]
    exact_mod_cast rfl
  have h4 : (bot E w : Rat) = ((E j).den : Rat) * (k : Rat) := by
    rw [e]
    exact_mod_cast rfl
  have h5 : ((E j).num : Rat) = E j * ((E j).den : Rat) := by
    have := (Rat.div_mul_cancel hd (a := ((E j).num : Rat))).symm
    rwa [← h2] at this
  rw [h3, h4, h5]
  grind
theorem num_le {q : Rat} (lo : -1 ≤ q) (hi : q ≤ 1) : q.num.natAbs ≤ q.den := by
  have h1 := (Rat.le_iff _ _).mp lo
  have h2 := (Rat.le_iff _ _).mp hi
  simp at h1 h2
  omega
theorem whole_bt {M m w j : Nat} {E : Nat → Rat} (hj : j < w) (h0 : 0 < M) (hM : M < 2 ^ m) (hd : ∀ j, j < w → (E j).den ∣ M) (lo : -1 ≤ E j) (hi : E j ≤ 1) : Bt m (whole w E j) := by
  unfold Bt whole
  have h1 : bot E w ≤ M := Nat.le_of_dvd h0 (bot_dvd hd)
  have h2 := Nat.mul_div_le (bot E w) (E j).den
  have h3 := Nat.mul_le_mul_right (bot E w / (E j).den) (num_le lo hi)
  rw [Int.natAbs_mul, Int.natAbs_natCast]
  omega
theorem Sz.divInt {n : Nat} {a b : Int} (hb : b ≠ 0) (ha : Bt n a) (hB : Bt n b) : Sz n (Rat.divInt a b) := by
  unfold Sz Bt at *
  rw [Rat.num_divInt, Rat.den_divInt, if_neg hb]
  constructor
  · have h1 : b.sign.natAbs ≤ 1 := by
      rcases Int.lt_or_gt_of_ne hb with h | h
      · rw [Int.sign_eq_neg_one_of_neg h]; decide
      · rw [Int.sign_eq_one_of_pos h]; decide
    have h2 := Int.natAbs_ediv_le_natAbs (b.sign * a) (Int.gcd b a)
    have h3 := Nat.mul_le_mul_right a.natAbs h1
    have h4 := Int.natAbs_mul b.sign a
    omega
  · rw [Int.natAbs_natCast]
    exact Nat.lt_of_le_of_lt (Nat.div_le_self ..) hB
/-- bits behind so many columns -/
def bits (m : Nat) : Nat → Nat
  | 0 => m
  | s + 1 => 2 * bits m s + 1
theorem whole_ker {n : Nat} {E : Nat → Nat → Rat} {y : Nat → Rat} : Ker n (n + 1) (fun i => whole (n + 1) (E i)) y ↔ ∀ i, i < n → (rs (n + 1) fun j => E i j * y j) = 0 := by
  have e : ∀ i, (rs (n + 1) fun j => (whole (n + 1) (E i) j : Rat) * y j) = (bot (E i) (n + 1) : Rat) * rs (n + 1) fun j => E i j * y j := fun i => by
    rw [← rs_mul]
    exact rs_congr fun j hj => by rw [whole_eq hj, Rat.mul_assoc]
  have p : ∀ i, (bot (E i) (n + 1) : Rat) ≠ 0 := fun i c => by
    have h1 : bot (E i) (n + 1) = 0 := by exact_mod_cast c
    have := bot_pos (E := E i) (k := n + 1)
    omega
  constructor
  · intro h i hi
    have h1 := h i hi
    rw [e i] at h1
    have := p i
    grind
  · intro h i hi
    show (rs (n + 1) fun j => (whole (n + 1) (E i) j : Rat) * y j) = 0
    rw [e i, h i hi, Rat.mul_zero]
theorem whole_inj {n : Nat} {E : Nat → Nat → Rat} (inj : ∀ y : Nat → Rat, (∀ i, i < n → (rs n fun j => E i j * y j) = 0) → ∀ j, j < n → y j = 0) : Inj n (n + 1) fun i => whole (n + 1) (E i) := by
  intro y z k
  refine inj y fun i hi => ?_
  have h1 := whole_ker.mp k i hi
  show (rs n fun j => E i j * y j) = 0
  have h2 : (rs (n + 1) fun j => E i j * y j) = (rs n fun j => E i j * y j) + E i n * y n := rfl
  rw [h2, z n (Nat.le_refl n), Rat.mul_zero, Rat.add_zero] at h1
  exact h1
theorem whole_sol {n : Nat} {E : Nat → Nat → Rat} {B : Nat → Nat → Int} (c : Clr n n B) (k : ∀ y, Ker n (n + 1) B y ↔ Ker n (n + 1) (fun i => whole (n + 1) (E i)) y) : ∀ i, i < n → (rs n fun j => E i j * ((B j n : Rat) / (B j j : Rat))) = E i n := by
  intro i hi
  have h1 := whole_ker.mp ((k _).mp (c.solves (w := n + 1) (Nat.le_refl n) (Nat.lt_succ_self n))) i hi
  have h2 : ∀ f : Nat → Rat, rs (n + 1) f = rs n f + f n := fun f => rfl
  rw [h2, rs_congr (g := fun j => E i j * ((B j n : Rat) / (B j j : Rat))) fun j hj => by rw [if_pos hj]] at h1
  simp at h1
  grind
end Dt
namespace Dt
open PySem PySem.Spec PyProof.Rows L2
/-! ### 53. statement by statement -/
section
variable {R : Sr → Prop} {P Q : Ro → Prop} {f g body : Fs} {ρ ρ' ρ1 : Ro} {vs : List Nat} {b : D → Ro → Option Ro} {c : Fr Bool} {src : Fr (List D)}
theorem seq_to (h : f ρ = .nx ρ') (k : R (g ρ')) : R (fSeq f g ρ) := by
  unfold fSeq
  rw [h]
  exact k
theorem seq_ex (h : ∃ ρ', f ρ = .nx ρ' ∧ P ρ') (k : ∀ ρ', P ρ' → R (g ρ')) : R (fSeq f g ρ) := by
  obtain ⟨ρ', e, p⟩ := h
  exact seq_to e (k ρ' p)
theorem if_to {t : Bool} (h : c ρ = .ok t ρ') (k : R (if t = true then f ρ' else g ρ')) : R (fIfS c f g ρ) := by
  unfold fIfS
  rw [h]
  exact k
/-- goes on, with so much -/
def Nx (Q : Ro → Prop) : Sr → Prop := fun r => ∃ ρ', r = .nx ρ' ∧ Q ρ'
theorem Nx.of (h : f ρ = .nx ρ') (q : Q ρ') : Nx Q (f ρ) := ⟨ρ', h, q⟩
theorem Nx.imp {r : Sr} (h : Nx P r) (k : ∀ ρ, P ρ → Q ρ) : Nx Q r := by
  obtain ⟨ρ', e, p⟩ := h
  exact ⟨ρ', e, k ρ' p⟩
/-- turns that keep something -/
theorem forGo_ex {enc : Nat → D} {n : Nat} (P : Nat → Ro → Prop) {ρ : Ro} (h : P 0 (wipeR ρ vs)) (hs : ∀ i ρ, i < n → P i ρ → ∃ ρ2, b (enc i) ρ = some ρ2 ∧ Nx (fun ρ3 => P (i + 1) (wipeR ρ3 vs)) (body ρ2)) : ∃ ρ', forGo vs b body ((List.range n).map enc) ρ = .nx ρ' ∧ P n ρ' := by
  have key := for_rel (vs := vs) (b := b) (body := body) enc (fun xs ρ => ∃ i, i ≤ n ∧ xs = (List.range n).drop i ∧ P i ρ) (fun x xs ρ ⟨i, hi, e, p⟩ => by
    have hlt : i < n := by
      refine Classical.byContradiction fun z => ?_
      rw [List.drop_of_length_le (by simp; omega)] at e
      cases e
    rw [List.drop_eq_getElem_cons (by simpa using hlt), List.getElem_range] at e
    injection e with e1 e2
    subst e1
    obtain ⟨ρ2, t, ρ3, t2, p'⟩ := hs x ρ hlt p
    exact ⟨_, turn_nx t t2 rfl, x + 1, hlt, e2, p'⟩) (List.range n) ρ ⟨0, Nat.zero_le _, rfl, h⟩
  obtain ⟨ρ', e, i, hi, e2, p⟩ := key
  have : i = n := by
    have := congrArg List.length e2
    simp at this
    omega
  subst this
  exact ⟨ρ', e, p⟩
theorem for_nxx {enc : Nat → D} {n : Nat} {ds : List D} (P : Nat → Ro → Prop) (hsrc : src ρ = .ok ds ρ1) (hds : ds = (List.range n).map enc) (h : P 0 (wipeR ρ1 vs)) (hs : ∀ i ρ, i < n → P i ρ → ∃ ρ2, b (enc i) ρ = some ρ2 ∧ Nx (fun ρ3 => P (i + 1) (wipeR ρ3 vs)) (body ρ2)) : Nx (P n) (fFor vs src b body ρ) := by
  subst hds
  unfold fFor
  rw [hsrc]
  exact forGo_ex P h hs
theorem for_nxt {enc : Nat → D} {n : Nat} {ds : List D} (st : Nat → Ro) (hsrc : src ρ = .ok ds ρ1) (hds : ds = (List.range n).map enc) (h : wipeR ρ1 vs = st 0) (hs : ∀ i, i < n → ∃ ρ2, b (enc i) (st i) = some ρ2 ∧ Nx (fun ρ3 => wipeR ρ3 vs = st (i + 1)) (body ρ2)) : fFor vs src b body ρ = .nx (st n) := by
  obtain ⟨ρ', e, p⟩ := for_nxx (fun i ρ => ρ = st i) hsrc hds h fun i ρ hi e => by subst e; exact hs i hi
  rw [e, p]
theorem wh_nx (I : Nat → Ro → Prop) (J : Ro → Prop) (n : Nat) (h : I n (wipeR ρ vs)) (hs : ∀ n ρ, I n ρ → (∃ ρ1, c ρ = .ok false ρ1 ∧ J ρ1) ∨ ∃ ρ1, c ρ = .ok true ρ1 ∧ Nx (fun ρ2 => ∃ m, m < n ∧ I m (wipeR ρ2 vs)) (body ρ1)) : Nx J (fWh vs c body ρ) :=
  wh_rel I J (fun n ρ i => (hs n ρ i).imp id fun ⟨ρ1, e, ρ2, e2, m, hm, i'⟩ => ⟨ρ1, ρ2, m, e, .inl e2, hm, i'⟩) n ρ h
end
/-! ### 54. what can be compared -/
structure Oq (k : Nat) (d : D) : Prop where
  pl : d.pl = true
  lay : PyData.canLay0 d.py = true
  dep : PyData.depth d.py ≤ k
theorem Oq.int {i : Int} : Oq 0 (.int i) := ⟨rfl, rfl, Nat.le_refl _⟩
theorem Oq.mono {k l : Nat} {d : D} (h : Oq k d) (hk : k ≤ l) : Oq l d := ⟨h.pl, h.lay, Nat.le_trans h.dep hk⟩
theorem Oq.all {k : Nat} : ∀ {ds : List D}, (∀ d ∈ ds, Oq k d) → plAll ds = true ∧ PyData.canLayAll0 (pys ds) = true ∧ PyData.depthAll (pys ds) ≤ k
  | [], _ => ⟨rfl, rfl, Nat.zero_le _⟩
  | d :: ds, h => by
    have h1 := h d (List.mem_cons_self ..)
    obtain ⟨a, b, c⟩ := Oq.all fun x hx => h x (List.mem_cons_of_mem d hx)
    have h3 := h1.dep
    simp only [plAll, pys, PyData.canLayAll0, PyData.depthAll, h1.pl, h1.lay, a, b, Bool.and_self, true_and]
    omega
theorem Oq.tup {k : Nat} {ds : List D} (h : ∀ d ∈ ds, Oq k d) : Oq (k + 1) (.tup ds) := by
  obtain ⟨a, b, c⟩ := Oq.all h
  exact ⟨a, b, Nat.succ_le_succ c⟩
theorem Oq.lst {k : Nat} {ds : List D} (h : ∀ d ∈ ds, Oq k d) : Oq (k + 1) (.lst ds) := by
  obtain ⟨a, b, c⟩ := Oq.all h
  exact ⟨a, b, Nat.succ_le_succ c⟩
theorem Oq.okq {k : Nat} {d : D} (h : Oq k d) (hk : k ≤ 64) : d.okq = true := by
  have := h.dep
  simp only [D.okq, SeqAt.shaped, h.pl, h.lay, Bool.true_and, decide_eq_true_eq]
  omega
theorem Oq.sh {q : Rat} : Oq 1 (Sh q) := .tup fun d hd => by
  rcases List.mem_cons.mp hd with rfl | hd
  · exact .int
  · rcases List.mem_singleton.mp hd with rfl
    exact .int
mutual
theorem eqD_refl : ∀ {d : D}, d.pl = true → eqD d d = true
  | .non, _ => by simp [eqD]
  | .bl b, _ => by simp [eqD]
  | .int i, _ => by simp [eqD]
  | .str x, _ => by simp [eqD]
  | .tup ds, h => by
    rw [eqD]
    exact eqDs_refl h
  | .lst ds, h => by
    rw [eqD]
    exact eqDs_refl h
theorem eqDs_refl : ∀ {ds : List D}, plAll ds = true → eqDs ds ds = true
  | [], _ => by simp [eqDs]
  | d :: ds, h => by
    have h := Bool.and_eq_true_iff.mp h
    rw [eqDs, eqD_refl h.1, eqDs_refl h.2]
    rfl
end
@[simp] theorem okq_sh {q : Rat} : (D.tup [.int q.num, .int q.den]).okq = true := Oq.sh.okq (by decide)
@[simp] theorem eqD_sh {q : Rat} : eqD (D.tup [.int q.num, .int q.den]) (D.tup [.int q.num, .int q.den]) = true := eqD_refl Oq.sh.pl
@[simp] theorem okq_ints {xs : List Int} : (D.lst (xs.map .int)).okq = true := (Oq.lst (k := 0) fun d hd => by
  obtain ⟨i, _, rfl⟩ := List.mem_map.mp hd
  exact .int).okq (by decide)
theorem okq_nats {xs : List Nat} : (D.lst (xs.map fun t => .int (t : Nat))).okq = true := (Oq.lst (k := 0) fun d hd => by
  obtain ⟨i, _, rfl⟩ := List.mem_map.mp hd
  exact .int).okq (by decide)
@[simp] theorem okq_nil : (D.lst []).okq = true := rfl
@[simp] theorem eqD_nil {d : D} {ds : List D} : eqD (.lst (d :: ds)) (.lst []) = false := by simp [eqD, eqDs]
@[simp] theorem eqD_nil2 : eqD (.lst []) (.lst []) = true := by simp [eqD, eqDs]
theorem any_nats {i : Nat} : ∀ {l : List Nat}, ((l.map fun r : Nat => D.int r).any fun x => eqD x (.int i)) = decide (i ∈ l)
  | [] => rfl
  | r :: l => by
    rw [List.map_cons, List.any_cons, any_nats, eqD_int, natCast_beq]
    by_cases h : r = i
    · subst h; simp
    · have : ¬ i = r := fun z => h z.symm
      simp [h, this]
@[simp] theorem oIn_nats {i : Nat} {l : List Nat} : oIn (.int i) (.lst (l.map fun r : Nat => D.int r)) = some (decide (i ∈ l)) := by
  simp only [oIn, D.items, okq_int, okq_nats, Bool.and_self, if_true, any_nats]
theorem okq_tints {xs : List Int} : (D.tup (xs.map .int)).okq = true := (Oq.tup (k := 0) fun d hd => by
  obtain ⟨i, _, rfl⟩ := List.mem_map.mp hd
  exact .int).okq (by decide)
@[simp] theorem okq_t0 : (D.tup []).okq = true := rfl
@[simp] theorem okq_t1 {i : Int} : (D.tup [.int i]).okq = true := okq_tints (xs := [i])
@[simp] theorem oIn_t1 {i e : Nat} : oIn (.int i) (.tup [.int e]) = some (decide (e = i)) := by
  simp only [oIn, D.items, okq_int, okq_t1, Bool.and_self, if_true, List.any_cons, List.any_nil, eqD_int, natCast_beq, Bool.or_false]
  rfl
@[simp] theorem oIn_t0 {i : Int} : oIn (.int i) (.tup []) = some false := by
  simp only [oIn, D.items, okq_int, okq_t0, Bool.and_self, if_true, List.any_nil]
theorem cut_1 {xs : List D} : cutD xs (some 1) none = xs.drop 1 := cut_lo (k := 1)
theorem en_rows {R N : Nat} {A : Nat → Nat → Rat} : enD ((mD R N A).map .lst) = (List.range R).map fun i => .tup [.int (i : Nat), .lst (rowD N (A i))] := by
  unfold mD
  rw [List.map_map, enD_map]
  refine List.ext_getElem? fun l => ?_
  rw [List.getElem?_map, List.getElem?_zipIdx, List.getElem?_map]
  by_cases h : l < R
  · simp [h]
  · simp [h]
/-- a comprehension that draws -/
theorem lc_ex {vs : List Nat} {b : D → Ro → Option Ro} {te : Fr D} {enc : Nat → D} (I : Nat → List D → Ro → Prop) : ∀ {n k : Nat} {acc : List D} {ρ : Ro}, (∀ i acc ρ, i < k + n → I i acc ρ → ∃ ρ2 d ρ4, b (enc i) ρ = some ρ2 ∧ te ρ2 = .ok d ρ4 ∧ I (i + 1) (acc ++ [d]) (wipeR ρ4 vs)) → I k acc ρ →
    ∃ ds ρ', lcGo vs b fYes te ((List.range' k n).map enc) acc ρ = some (ds, ρ') ∧ I (k + n) ds ρ'
  | 0, k, acc, ρ, _, h => ⟨acc, ρ, rfl, h⟩
  | n + 1, k, acc, ρ, hs, h => by
    obtain ⟨ρ2, d, ρ4, h1, h2, h3⟩ := hs k acc ρ (by omega) h
    obtain ⟨ds, ρ', h4, h5⟩ := lc_ex I (n := n) (k := k + 1) (fun i acc ρ hi => hs i acc ρ (by omega)) h3
    refine ⟨ds, ρ', ?_, by rw [show k + (n + 1) = k + 1 + n by omega]; exact h5⟩
    rw [List.range'_succ, List.map_cons]
    unfold lcGo
    simp only [h1, h2, fYes]
    exact h4
theorem lc_ex0 {vs : List Nat} {b : D → Ro → Option Ro} {te : Fr D} {enc : Nat → D} (I : Nat → List D → Ro → Prop) {n : Nat} {ρ : Ro} (hs : ∀ i acc ρ, i < n → I i acc ρ → ∃ ρ2 d ρ4, b (enc i) ρ = some ρ2 ∧ te ρ2 = .ok d ρ4 ∧ I (i + 1) (acc ++ [d]) (wipeR ρ4 vs)) (h : I 0 [] ρ) :
    ∃ ds ρ', lcGo vs b fYes te ((List.range n).map enc) [] ρ = some (ds, ρ') ∧ I n ds ρ' := by
  have := lc_ex (vs := vs) (b := b) (te := te) (enc := enc) I (n := n) (k := 0) (acc := []) (ρ := ρ) (fun i acc ρ hi => hs i acc ρ (by omega)) h
  rwa [← List.range_eq_range', Nat.zero_add] at this
theorem for_nxf {α β : Type} {vs : List Nat} {b : D → Ro → Option Ro} {body : Fs} {src : Fr (List D)} {enc : β → D} {xs : List β} {ds : List D} {ρ ρ1 : Ro} {a : α} (st : α → Ro) (f : α → β → α) (P : List β → α → Prop) (hsrc : src ρ = .ok ds ρ1) (hds : ds = xs.map enc) (h : wipeR ρ1 vs = st a) (hP : P xs a)
    (hs : ∀ x xs a, P (x :: xs) a → P xs (f a x) ∧ ∃ ρ2, b (enc x) (st a) = some ρ2 ∧ Nx (fun ρ3 => wipeR ρ3 vs = st (f a x)) (body ρ2)) : fFor vs src b body ρ = .nx (st (xs.foldl f a)) := by
  subst hds
  unfold fFor
  rw [hsrc]
  exact (for_fold enc st f P (fun x xs a hp => by
    obtain ⟨h1, ρ2, h2, ρ3, h3, h4⟩ := hs x xs a hp
    exact ⟨turn_nx h2 h3 h4, h1⟩) xs a ρ1 h hP).1
theorem foldl_one {α β : Type} {g : β → α} : ∀ {xs : List β} {a : List α}, xs.foldl (fun a x => a ++ [g x]) a = a ++ xs.map g
  | [], a => by simp
  | x :: xs, a => by
    rw [List.foldl_cons, foldl_one]
    simp
theorem foldl_flat {α β : Type} {g : β → List α} : ∀ {xs : List β} {a : List α}, xs.foldl (fun a x => a ++ g x) a = a ++ xs.flatMap g
  | [], a => by simp
  | x :: xs, a => by
    rw [List.foldl_cons, foldl_flat]
    simp
theorem fmod_cast {a b : Nat} : (a : Int).fmod (b : Int) = ((a % b : Nat) : Int) := (Int.ofNat_fmod a b).symm
end Dt
namespace K44
open PySem PySem.Spec PyProof.Rows L2 Dt
def top (i : Nat) : Stmt := PySem.Challenge.pw_oddsrooms_k44_whole_chances_behind_steps.main.body.getD i (.Pass ⟨0, 0, 0, 0⟩)
/-- the classes of exceptions by number, their fields -/
def tab (c0 c1 c2 : Addr) : Tab := ⟨fun n => match n with | 0 => c0 | 1 => c1 | _ => c2, fun n => match n with | 0 => "place" | 1 => "place" | _ => "value"⟩
def cat_2 : Nat → Option Bool := fun k => if k < 3 then some (decide (k = 2)) else none
abbrev s_is_number : Stmt := top 6
abbrev s_is_among : Stmt := top 7
abbrev s_is_tuple_of : Stmt := top 8
abbrev s_common_factor : Stmt := top 13
abbrev s_made_share : Stmt := top 14
abbrev s_is_share : Stmt := top 15
abbrev s_is_small_share : Stmt := top 16
abbrev s_plus_by : Stmt := top 17
abbrev s_minus_by : Stmt := top 18
abbrev s_times_by : Stmt := top 19
abbrev s_is_less_by : Stmt := top 20
abbrev s_sum_by : Stmt := top 21
abbrev s_product_sum_by : Stmt := top 22
abbrev s_plain_row : Stmt := top 24
abbrev s_solved_shares : Stmt := top 25
abbrev s_is_step : Stmt := top 31
abbrev s_need_piece : Stmt := top 32
abbrev s_need_begin_room : Stmt := top 34
abbrev s_is_aim : Stmt := top 35
abbrev s_need_right_aim : Stmt := top 36
abbrev s_need_aim : Stmt := top 37
abbrev s_moves_by : Stmt := top 38
abbrev s_leading_to : Stmt := top 39
abbrev s_arrivals_by : Stmt := top 40
abbrev s_arrivals_of : Stmt := top 41
abbrev s_chances_behind : Stmt := top 44
abbrev s__law_begun : Stmt := top 46
abbrev s__law_next : Stmt := top 47
abbrev s__law_of : Stmt := top 48
abbrev s__law_like : Stmt := top 49
abbrev s__law_factor : Stmt := top 50
abbrev s__law_share : Stmt := top 51
abbrev s__law_plus : Stmt := top 52
abbrev s__law_times : Stmt := top 53
abbrev s__law_sum : Stmt := top 54
abbrev s__law_is_less : Stmt := top 55
abbrev s__law_room_piece : Stmt := top 56
abbrev s__law_moves : Stmt := top 57
abbrev s__law_behind : Stmt := top 58
abbrev s__law_ring_piece : Stmt := top 59
abbrev s__law_right : Stmt := top 60
abbrev s_law : Stmt := top 61
structure Txt (P : Program) (K : Frag) (mg : Str → Option Value) (c0 c1 c2 : Addr) : Prop where
  t_is_number : FnTx K mg "is_number" s_is_number ["thing"]
  t_is_among : FnTx K mg "is_among" s_is_among ["thing", "least", "most"]
  t_is_tuple_of : FnTx K mg "is_tuple_of" s_is_tuple_of ["thing", "least", "most"]
  t_common_factor : FnTx K mg "common_factor" s_common_factor ["one", "other"]
  t_made_share : FnTx K mg "made_share" s_made_share ["top", "bottom"]
  t_is_share : FnTx K mg "is_share" s_is_share ["thing"]
  t_is_small_share : FnTx K mg "is_small_share" s_is_small_share ["thing"]
  t_plus_by : FnTx K mg "plus_by" s_plus_by ["one", "other"]
  t_minus_by : FnTx K mg "minus_by" s_minus_by ["one", "other"]
  t_times_by : FnTx K mg "times_by" s_times_by ["one", "other"]
  t_is_less_by : FnTx K mg "is_less_by" s_is_less_by ["one", "other"]
  t_sum_by : FnTx K mg "sum_by" s_sum_by ["shares"]
  t_product_sum_by : FnTx K mg "product_sum_by" s_product_sum_by ["ones", "others"]
  t_plain_row : FnTx K mg "plain_row" s_plain_row ["row"]
  t_solved_shares : FnTx K mg "solved_shares" s_solved_shares ["matrix", "columns"]
  t_is_step : FnTx K mg "is_step" s_is_step ["thing", "rooms", "signs", "outs"]
  t_need_piece : FnTx K mg "need_piece" s_need_piece ["piece"]
  t_need_begin_room : FnTx K mg "need_begin_room" s_need_begin_room ["piece", "room"]
  t_is_aim : FnTx K mg "is_aim" s_is_aim ["piece", "thing"]
  t_need_right_aim : FnTx K mg "need_right_aim" s_need_right_aim ["piece", "aim", "word"]
  t_need_aim : FnTx K mg "need_aim" s_need_aim ["piece", "aim"]
  t_moves_by : FnTx K mg "moves_by" s_moves_by ["piece"]
  t_leading_to : FnTx K mg "leading_to" s_leading_to ["rows", "aim", "gone"]
  t_arrivals_by : FnTx K mg "arrivals_by" s_arrivals_by ["rows", "aim", "gone"]
  t_arrivals_of : FnTx K mg "arrivals_of" s_arrivals_of ["piece", "aim"]
  t_chances_behind : FnTx K mg "chances_behind" s_chances_behind ["piece", "room", "many"]
  t__law_begun : FnTx K mg "_law_begun" s__law_begun ["script"]
  t__law_next : FnTx K mg "_law_next" s__law_next ["m", "many"]
  t__law_of : FnTx K mg "_law_of" s__law_of ["m", "some"]
  t__law_like : FnTx K mg "_law_like" s__law_like ["got", "due"]
  t__law_factor : FnTx K mg "_law_factor" s__law_factor ["one", "other"]
  t__law_share : FnTx K mg "_law_share" s__law_share ["top", "bottom"]
  t__law_plus : FnTx K mg "_law_plus" s__law_plus ["one", "other"]
  t__law_times : FnTx K mg "_law_times" s__law_times ["one", "other"]
  t__law_sum : FnTx K mg "_law_sum" s__law_sum ["shares"]
  t__law_is_less : FnTx K mg "_law_is_less" s__law_is_less ["one", "other"]
  t__law_room_piece : FnTx K mg "_law_room_piece" s__law_room_piece ["m", "most"]
  t__law_moves : FnTx K mg "_law_moves" s__law_moves ["piece"]
  t__law_behind : FnTx K mg "_law_behind" s__law_behind ["rows", "room", "many"]
  t__law_ring_piece : FnTx K mg "_law_ring_piece" s__law_ring_piece ["m", "most"]
  t__law_right : FnTx K mg "_law_right" s__law_right ["m", "piece"]
  nb_abs : mg "abs" = none
  nb_all : mg "all" = none
  nb_any : mg "any" = none
  nb_bool : mg "bool" = none
  nb_enumerate : mg "enumerate" = none
  nb_int : mg "int" = none
  nb_isinstance : mg "isinstance" = none
  nb_len : mg "len" = none
  nb_list : mg "list" = none
  nb_range : mg "range" = none
  nb_repr : mg "repr" = none
  nb_sorted : mg "sorted" = none
  nb_str : mg "str" = none
  nb_super : mg "super" = none
  nb_tuple : mg "tuple" = none
  nb_zip : mg "zip" = none
  g_ZERO : GlD K mg "ZERO" (.tup [.int 0, .int 1])
  g_ONE : GlD K mg "ONE" (.tup [.int 1, .int 1])
  g_MOST_NUMBER : GlD K mg "MOST_NUMBER" (.int 1000000000000)
  g_MOST_ROOMS : GlD K mg "MOST_ROOMS" (.int 12)
  g_MOST_SIGNS : GlD K mg "MOST_SIGNS" (.int 3)
  g_MOST_STEPS : GlD K mg "MOST_STEPS" (.int 40)
  g_MOST_DOORS : GlD K mg "MOST_DOORS" (.int 3)
  g_MOST_BEHIND : GlD K mg "MOST_BEHIND" (.int 200)
  x_0 : ∃ fI txt, XTxt P K c0 fI txt "place" "place"
  xg_0 : mg "BadPiece" = some (.ref c0)
  x_1 : ∃ fI txt, XTxt P K c1 fI txt "place" "place"
  xg_1 : mg "BadList" = some (.ref c1)
  x_2 : ∃ fI txt, XTxt P K c2 fI txt "value" "value"
  xg_2 : mg "BadNumber" = some (.ref c2)
  xf_2 : XfC K c2
  xn_2 : PySem.W.findIn K (.ref c2) "value" = some none
  xc_2 : ∀ k b, cat_2 k = some b → PySem.W.exmOne K (.ref ((tab c0 c1 c2).cls k)) (.ref c2) = some b
section
variable {P : Program} {w : World} {K : Frag} {mg : Str → Option Value} {base : Heap} {c0 c1 c2 : Addr}
/-! is_number: 0 thing -/
noncomputable def f_is_number : Fs := (fRet (fSD (fAndV (fIsi tInt (fAt 0)) (fNotV (fIsi tBool (fAt 0))))))
noncomputable def φ_is_number : List D → Rd := runD 1 f_is_number
theorem sc_is_number : FnScope (["thing"] : List Str) (["thing"] : List Str) (defScope s_is_number) := ⟨rfl, rfl, rfl, by decide +kernel, rfl, by decide +kernel, by decide +kernel⟩
theorem ok_is_number (G : Txt P K mg c0 c1 c2) : FnAt P w K mg base "is_number" 2 (["thing"] : List Str) (spD K mg (tab c0 c1 c2) φ_is_number 1) := by
  refine atD (N := ["thing"]) (f := f_is_number) G.t_is_number sc_is_number (by decide) fun a cdv A outer s H E hr gu => ?_
  have nd := sc_is_number.nd
  refine dss_one ?_
  refine ds_ret ?_
  · refine dv_de ?_
    · refine de_and ?_ ?_
      · refine de_isi (tb := tInt) (ty := "int") rfl G.nb_isinstance rfl G.nb_int (by decide +kernel) (by decide) (by decide) tInt_ok ?_
        · exact db_var 0
      · refine de_one ?_
        refine de_not ?_
        · refine de_isi (tb := tBool) (ty := "bool") rfl G.nb_isinstance rfl G.nb_bool (by decide +kernel) (by decide) (by decide) tBool_ok ?_
          · exact db_var 0
/-! is_among: 0 thing, 1 least, 2 most -/
noncomputable def f_is_among : Fs := (fRet (fSD (fAndV (fFz (fCallD φ_is_number (fCons (fVar 0) fNil))) (fBl (fChain (fun i j => decide (i ≤ j)) (fun i j => decide (i ≤ j)) (fVar 1) (fVar 0) (fVar 2))))))
noncomputable def φ_is_among : List D → Rd := runD 3 f_is_among
theorem sc_is_among : FnScope (["thing", "least", "most"] : List Str) (["thing", "least", "most"] : List Str) (defScope s_is_among) := ⟨rfl, rfl, rfl, by decide +kernel, rfl, by decide +kernel, by decide +kernel⟩
theorem ok_is_among (G : Txt P K mg c0 c1 c2) : FnAt P w K mg base "is_among" 3 (["thing", "least", "most"] : List Str) (spD K mg (tab c0 c1 c2) φ_is_among 3) := by
  refine atD (N := ["thing", "least", "most"]) (f := f_is_among) G.t_is_among sc_is_among (by decide) fun a cdv A outer s H E hr gu => ?_
  have nd := sc_is_among.nd
  refine dss_one ?_
  refine ds_ret ?_
  · refine dv_de ?_
    · refine de_and ?_ ?_
      · refine ce_call (ok_is_number G) hr gu (takes_of rfl rfl rfl rfl) ?_ (len_cons len_nil)
        · refine da_cons ?_ ?_
          · exact de_var 0
          · exact da_nil
      · refine de_one ?_
        refine de_chain op_le op_le ?_ ?_ ?_
        · exact de_var 1
        · exact de_var 0
        · exact de_var 2
/-! is_tuple_of: 0 thing, 1 least, 2 most -/
noncomputable def f_is_tuple_of : Fs := (fRet (fSD (fAndV (fIsi tTuple (fAt 0)) (fBl (fChain (fun i j => decide (i ≤ j)) (fun i j => decide (i ≤ j)) (fVar 1) (fLen (fAt 0)) (fVar 2))))))
noncomputable def φ_is_tuple_of : List D → Rd := runD 3 f_is_tuple_of
theorem sc_is_tuple_of : FnScope (["thing", "least", "most"] : List Str) (["thing", "least", "most"] : List Str) (defScope s_is_tuple_of) := ⟨rfl, rfl, rfl, by decide +kernel, rfl, by decide +kernel, by decide +kernel⟩
theorem ok_is_tuple_of (G : Txt P K mg c0 c1 c2) : FnAt P w K mg base "is_tuple_of" 2 (["thing", "least", "most"] : List Str) (spD K mg (tab c0 c1 c2) φ_is_tuple_of 3) := by
  refine atD (N := ["thing", "least", "most"]) (f := f_is_tuple_of) G.t_is_tuple_of sc_is_tuple_of (by decide) fun a cdv A outer s H E hr gu => ?_
  have nd := sc_is_tuple_of.nd
  refine dss_one ?_
  refine ds_ret ?_
  · refine dv_de ?_
    · refine de_and ?_ ?_
      · refine de_isi (tb := tTuple) (ty := "tuple") rfl G.nb_isinstance rfl G.nb_tuple (by decide +kernel) (by decide) (by decide) tTuple_ok ?_
        · exact db_var 0
      · refine de_one ?_
        refine de_chain op_le op_le ?_ ?_ ?_
        · exact de_var 1
        · refine de_len rfl G.nb_len ?_
          · exact db_var 0
        · exact de_var 2
/-! common_factor: 0 one, 1 other -/
noncomputable def f_common_factor : Fs := (fSeq (fWh [] (fLook2 oNe (fAt 1) (fVal (fC (.int 0)))) (fPar2 0 1 (fsCons (fSD (fVar 1)) (fsCons (fSD (fBin oMod (fVar 0) (fVar 1))) fsNil)))) (fRet (fSD (fUn oAbs (fVar 0)))))
noncomputable def φ_common_factor : List D → Rd := runD 2 f_common_factor
theorem sc_common_factor : FnScope (["one", "other"] : List Str) (["one", "other"] : List Str) (defScope s_common_factor) := ⟨rfl, rfl, rfl, by decide +kernel, rfl, by decide +kernel, by decide +kernel⟩
theorem ok_common_factor (G : Txt P K mg c0 c1 c2) : FnAt P w K mg base "common_factor" 2 (["one", "other"] : List Str) (spD K mg (tab c0 c1 c2) φ_common_factor 2) := by
  refine atD (N := ["one", "other"]) (f := f_common_factor) G.t_common_factor sc_common_factor (by decide) fun a cdv A outer s H E hr gu => ?_
  have nd := sc_common_factor.nd
  refine dss_cons ?_ ?_
  · refine ds_while [] (passes_of rfl) ?_ ?_
    · refine dt_ne hr.units ?_ ?_
      · exact db_var 1
      · refine db_of ?_
        · exact de_int
    · refine dss_one ?_
      refine ds_par2 0 1 rfl nd ?_
      · refine dvs_cons ?_ ?_
        · refine dv_de ?_
          · exact de_var 1
        · refine dvs_cons ?_ ?_
          · refine dv_de ?_
            · refine de_mod ?_ ?_
              · exact de_var 0
              · exact de_var 1
          · exact dvs_nil
  · refine dss_one ?_
    refine ds_ret ?_
    · refine dv_de ?_
      · refine de_abs rfl G.nb_abs ?_
        · exact de_var 0
/-! made_share: 0 top, 1 bottom, 2 factor -/
noncomputable def f_made_share : Fs := (fSeq (fSet 2 (fSD (fFz (fCallD φ_common_factor (fCons (fVar 0) (fCons (fVar 1) fNil)))))) (fSeq (fIfS (fLook2 oLt (fAt 1) (fVal (fC (.int 0)))) (fSet 2 (fSD (fUn oNeg (fVar 2)))) fPass) (fRet (fSD (fTup (fCons (fBin oDiv (fVar 0) (fVar 2)) (fCons (fBin oDiv (fVar 1) (fVar 2)) fNil)))))))
noncomputable def φ_made_share : List D → Rd := runD 3 f_made_share
theorem sc_made_share : FnScope (["top", "bottom", "factor"] : List Str) (["top", "bottom"] : List Str) (defScope s_made_share) := ⟨rfl, rfl, rfl, by decide +kernel, rfl, by decide +kernel, by decide +kernel⟩
theorem ok_made_share (G : Txt P K mg c0 c1 c2) : FnAt P w K mg base "made_share" 3 (["top", "bottom"] : List Str) (spD K mg (tab c0 c1 c2) φ_made_share 2) := by
  refine atD (N := ["top", "bottom", "factor"]) (f := f_made_share) G.t_made_share sc_made_share (by decide) fun a cdv A outer s H E hr gu => ?_
  have nd := sc_made_share.nd
  refine dss_cons ?_ ?_
  · refine ds_set 2 nd ?_
    · refine dv_de ?_
      · refine ce_call (ok_common_factor G) hr gu (takes_of rfl rfl rfl rfl) ?_ (len_cons (len_cons len_nil))
        · refine da_cons ?_ ?_
          · exact de_var 0
          · refine da_cons ?_ ?_
            · exact de_var 1
            · exact da_nil
  · refine dss_cons ?_ ?_
    · refine ds_if ?_ ?_ ?_
      · refine dt_lt ?_ ?_
        · exact db_var 1
        · refine db_of ?_
          · exact de_int
      · refine dss_one ?_
        refine ds_set 2 nd ?_
        · refine dv_de ?_
          · refine de_neg ?_
            · exact de_var 2
      · exact dss_nil
    · refine dss_one ?_
      refine ds_ret ?_
      · refine dv_de ?_
        · refine de_tup ?_
          · refine da_cons ?_ ?_
            · refine de_div ?_ ?_
              · exact de_var 0
              · exact de_var 2
            · refine da_cons ?_ ?_
              · refine de_div ?_ ?_
                · exact de_var 1
                · exact de_var 2
              · exact da_nil
/-! is_share: 0 thing -/
noncomputable def f_is_share : Fs := (fSeq (fIfS (fOr (fNot (fTb (fFz (fCallD φ_is_tuple_of (fCons (fVar 0) (fCons (fC (.int 2)) (fCons (fC (.int 2)) fNil))))))) (fOr (fNot (fTb (fFz (fCallD φ_is_number (fCons (fIx (fAt 0) (fC (.int 0))) fNil))))) (fOr (fNot (fTb (fFz (fCallD φ_is_number (fCons (fIx (fAt 0) (fC (.int 1))) fNil))))) (fLook2 oLt (fVal (fIx (fAt 0) (fC (.int 1)))) (fVal (fC (.int 1))))))) (fRet (fSD (fC (.bl false)))) fPass) (fRet (fSD (fBl (fLook2 oEq (fVal (fFz (fCallD φ_common_factor (fCons (fIx (fAt 0) (fC (.int 0))) (fCons (fIx (fAt 0) (fC (.int 1))) fNil))))) (fVal (fC (.int 1))))))))
noncomputable def φ_is_share : List D → Rd := runD 1 f_is_share
theorem sc_is_share : FnScope (["thing"] : List Str) (["thing"] : List Str) (defScope s_is_share) := ⟨rfl, rfl, rfl, by decide +kernel, rfl, by decide +kernel, by decide +kernel⟩
theorem ok_is_share (G : Txt P K mg c0 c1 c2) : FnAt P w K mg base "is_share" 3 (["thing"] : List Str) (spD K mg (tab c0 c1 c2) φ_is_share 1) := by
  refine atD (N := ["thing"]) (f := f_is_share) G.t_is_share sc_is_share (by decide) fun a cdv A outer s H E hr gu => ?_
  have nd := sc_is_share.nd
  refine dss_cons ?_ ?_
  · refine ds_if ?_ ?_ ?_
    · refine dt_w ?_
      refine dw_or ?_ ?_
      · refine dt_not ?_
        · refine dt_val ?_
          · refine ce_call (ok_is_tuple_of G) hr gu (takes_of rfl rfl rfl rfl) ?_ (len_cons (len_cons (len_cons len_nil)))
            · refine da_cons ?_ ?_
              · exact de_var 0
              · refine da_cons ?_ ?_
                · exact de_int
                · refine da_cons ?_ ?_
                  · exact de_int
                  · exact da_nil
      · refine dw_or ?_ ?_
        · refine dt_not ?_
          · refine dt_val ?_
            · refine ce_call (ok_is_number G) hr gu (takes_of rfl rfl rfl rfl) ?_ (len_cons len_nil)
              · refine da_cons ?_ ?_
                · refine de_ix ?_ ?_
                  · exact db_var 0
                  · exact de_int
                · exact da_nil
        · refine dw_or ?_ ?_
          · refine dt_not ?_
            · refine dt_val ?_
              · refine ce_call (ok_is_number G) hr gu (takes_of rfl rfl rfl rfl) ?_ (len_cons len_nil)
                · refine da_cons ?_ ?_
                  · refine de_ix ?_ ?_
                    · exact db_var 0
                    · exact de_int
                  · exact da_nil
          · refine dw_or1 ?_
            refine dt_lt ?_ ?_
            · refine db_of ?_
              · refine de_ix ?_ ?_
                · exact db_var 0
                · exact de_int
            · refine db_of ?_
              · exact de_int
    · refine dss_one ?_
      refine ds_ret ?_
      · refine dv_de ?_
        · exact de_bl
    · exact dss_nil
  · refine dss_one ?_
    refine ds_ret ?_
    · refine dv_de ?_
      · refine de_eq hr.units ?_ ?_
        · refine db_of ?_
          · refine ce_call (ok_common_factor G) hr gu (takes_of rfl rfl rfl rfl) ?_ (len_cons (len_cons len_nil))
            · refine da_cons ?_ ?_
              · refine de_ix ?_ ?_
                · exact db_var 0
                · exact de_int
              · refine da_cons ?_ ?_
                · refine de_ix ?_ ?_
                  · exact db_var 0
                  · exact de_int
                · exact da_nil
        · refine db_of ?_
          · exact de_int
/-! is_small_share: 0 thing -/
noncomputable def f_is_small_share : Fs := (fRet (fSD (fAndV (fFz (fCallD φ_is_share (fCons (fVar 0) fNil))) (fAndV (fBl (fLook2 oLe (fVal (fUn oAbs (fIx (fAt 0) (fC (.int 0))))) (fVal (fC (.int 1000000000000))))) (fBl (fLook2 oLe (fVal (fIx (fAt 0) (fC (.int 1)))) (fVal (fC (.int 1000000000000)))))))))
noncomputable def φ_is_small_share : List D → Rd := runD 1 f_is_small_share
theorem sc_is_small_share : FnScope (["thing"] : List Str) (["thing"] : List Str) (defScope s_is_small_share) := ⟨rfl, rfl, rfl, by decide +kernel, rfl, by decide +kernel, by decide +kernel⟩
theorem ok_is_small_share (G : Txt P K mg c0 c1 c2) : FnAt P w K mg base "is_small_share" 4 (["thing"] : List Str) (spD K mg (tab c0 c1 c2) φ_is_small_share 1) := by
  refine atD (N := ["thing"]) (f := f_is_small_share) G.t_is_small_share sc_is_small_share (by decide) fun a cdv A outer s H E hr gu => ?_
  have nd := sc_is_small_share.nd
  refine dss_one ?_
  refine ds_ret ?_
  · refine dv_de ?_
    · refine de_and ?_ ?_
      · refine ce_call (ok_is_share G) hr gu (takes_of rfl rfl rfl rfl) ?_ (len_cons len_nil)
        · refine da_cons ?_ ?_
          · exact de_var 0
          · exact da_nil
      · refine de_and ?_ ?_
        · refine de_le ?_ ?_
          · refine db_of ?_
            · refine de_abs rfl G.nb_abs ?_
              · refine de_ix ?_ ?_
                · exact db_var 0
                · exact de_int
          · refine db_of ?_
            · exact de_gl G.g_MOST_NUMBER
        · refine de_one ?_
          refine de_le ?_ ?_
          · refine db_of ?_
            · refine de_ix ?_ ?_
              · exact db_var 0
              · exact de_int
          · refine db_of ?_
            · exact de_gl G.g_MOST_NUMBER
/-! plus_by: 0 one, 1 other -/
noncomputable def f_plus_by : Fs := (fRet (fSD (fFz (fCallD φ_made_share (fCons (fBin oAdd (fBin oMul (fIx (fAt 0) (fC (.int 0))) (fIx (fAt 1) (fC (.int 1)))) (fBin oMul (fIx (fAt 1) (fC (.int 0))) (fIx (fAt 0) (fC (.int 1))))) (fCons (fBin oMul (fIx (fAt 0) (fC (.int 1))) (fIx (fAt 1) (fC (.int 1)))) fNil))))))
noncomputable def φ_plus_by : List D → Rd := runD 2 f_plus_by
theorem sc_plus_by : FnScope (["one", "other"] : List Str) (["one", "other"] : List Str) (defScope s_plus_by) := ⟨rfl, rfl, rfl, by decide +kernel, rfl, by decide +kernel, by decide +kernel⟩
theorem ok_plus_by (G : Txt P K mg c0 c1 c2) : FnAt P w K mg base "plus_by" 4 (["one", "other"] : List Str) (spD K mg (tab c0 c1 c2) φ_plus_by 2) := by
  refine atD (N := ["one", "other"]) (f := f_plus_by) G.t_plus_by sc_plus_by (by decide) fun a cdv A outer s H E hr gu => ?_
  have nd := sc_plus_by.nd
  refine dss_one ?_
  refine ds_ret ?_
  · refine dv_de ?_
    · refine ce_call (ok_made_share G) hr gu (takes_of rfl rfl rfl rfl) ?_ (len_cons (len_cons len_nil))
      · refine da_cons ?_ ?_
        · refine de_add ?_ ?_
          · refine de_mul ?_ ?_
            · refine de_ix ?_ ?_
              · exact db_var 0
              · exact de_int
            · refine de_ix ?_ ?_
              · exact db_var 1
              · exact de_int
          · refine de_mul ?_ ?_
            · refine de_ix ?_ ?_
              · exact db_var 1
              · exact de_int
            · refine de_ix ?_ ?_
              · exact db_var 0
              · exact de_int
        · refine da_cons ?_ ?_
          · refine de_mul ?_ ?_
            · refine de_ix ?_ ?_
              · exact db_var 0
              · exact de_int
            · refine de_ix ?_ ?_
              · exact db_var 1
              · exact de_int
          · exact da_nil
/-! minus_by: 0 one, 1 other -/
noncomputable def f_minus_by : Fs := (fRet (fSD (fFz (fCallD φ_made_share (fCons (fBin oSub (fBin oMul (fIx (fAt 0) (fC (.int 0))) (fIx (fAt 1) (fC (.int 1)))) (fBin oMul (fIx (fAt 1) (fC (.int 0))) (fIx (fAt 0) (fC (.int 1))))) (fCons (fBin oMul (fIx (fAt 0) (fC (.int 1))) (fIx (fAt 1) (fC (.int 1)))) fNil))))))
noncomputable def φ_minus_by : List D → Rd := runD 2 f_minus_by
theorem sc_minus_by : FnScope (["one", "other"] : List Str) (["one", "other"] : List Str) (defScope s_minus_by) := ⟨rfl, rfl, rfl, by decide +kernel, rfl, by decide +kernel, by decide +kernel⟩
theorem ok_minus_by (G : Txt P K mg c0 c1 c2) : FnAt P w K mg base "minus_by" 4 (["one", "other"] : List Str) (spD K mg (tab c0 c1 c2) φ_minus_by 2) := by
  refine atD (N := ["one", "other"]) (f := f_minus_by) G.t_minus_by sc_minus_by (by decide) fun a cdv A outer s H E hr gu => ?_
  have nd := sc_minus_by.nd
  refine dss_one ?_
  refine ds_ret ?_
  · refine dv_de ?_
    · refine ce_call (ok_made_share G) hr gu (takes_of rfl rfl rfl rfl) ?_ (len_cons (len_cons len_nil))
      · refine da_cons ?_ ?_
        · refine de_sub ?_ ?_
          · refine de_mul ?_ ?_
            · refine de_ix ?_ ?_
              · exact db_var 0
              · exact de_int
            · refine de_ix ?_ ?_
              · exact db_var 1
              · exact de_int
          · refine de_mul ?_ ?_
            · refine de_ix ?_ ?_
              · exact db_var 1
              · exact de_int
            · refine de_ix ?_ ?_
              · exact db_var 0
              · exact de_int
        · refine da_cons ?_ ?_
          · refine de_mul ?_ ?_
            · refine de_ix ?_ ?_
              · exact db_var 0
              · exact de_int
            · refine de_ix ?_ ?_
              · exact db_var 1
              · exact de_int
          · exact da_nil
/-! times_by: 0 one, 1 other -/
noncomputable def f_times_by : Fs := (fRet (fSD (fFz (fCallD φ_made_share (fCons (fBin oMul (fIx (fAt 0) (fC (.int 0))) (fIx (fAt 1) (fC (.int 0)))) (fCons (fBin oMul (fIx (fAt 0) (fC (.int 1))) (fIx (fAt 1) (fC (.int 1)))) fNil))))))
noncomputable def φ_times_by : List D → Rd := runD 2 f_times_by
theorem sc_times_by : FnScope (["one", "other"] : List Str) (["one", "other"] : List Str) (defScope s_times_by) := ⟨rfl, rfl, rfl, by decide +kernel, rfl, by decide +kernel, by decide +kernel⟩
theorem ok_times_by (G : Txt P K mg c0 c1 c2) : FnAt P w K mg base "times_by" 4 (["one", "other"] : List Str) (spD K mg (tab c0 c1 c2) φ_times_by 2) := by
  refine atD (N := ["one", "other"]) (f := f_times_by) G.t_times_by sc_times_by (by decide) fun a cdv A outer s H E hr gu => ?_
  have nd := sc_times_by.nd
  refine dss_one ?_
  refine ds_ret ?_
  · refine dv_de ?_
    · refine ce_call (ok_made_share G) hr gu (takes_of rfl rfl rfl rfl) ?_ (len_cons (len_cons len_nil))
      · refine da_cons ?_ ?_
        · refine de_mul ?_ ?_
          · refine de_ix ?_ ?_
            · exact db_var 0
            · exact de_int
          · refine de_ix ?_ ?_
            · exact db_var 1
            · exact de_int
        · refine da_cons ?_ ?_
          · refine de_mul ?_ ?_
            · refine de_ix ?_ ?_
              · exact db_var 0
              · exact de_int
            · refine de_ix ?_ ?_
              · exact db_var 1
              · exact de_int
          · exact da_nil
/-! is_less_by: 0 one, 1 other -/
noncomputable def f_is_less_by : Fs := (fRet (fSD (fBl (fLook2 oLt (fVal (fBin oMul (fIx (fAt 0) (fC (.int 0))) (fIx (fAt 1) (fC (.int 1))))) (fVal (fBin oMul (fIx (fAt 1) (fC (.int 0))) (fIx (fAt 0) (fC (.int 1)))))))))
noncomputable def φ_is_less_by : List D → Rd := runD 2 f_is_less_by
theorem sc_is_less_by : FnScope (["one", "other"] : List Str) (["one", "other"] : List Str) (defScope s_is_less_by) := ⟨rfl, rfl, rfl, by decide +kernel, rfl, by decide +kernel, by decide +kernel⟩
theorem ok_is_less_by (G : Txt P K mg c0 c1 c2) : FnAt P w K mg base "is_less_by" 2 (["one", "other"] : List Str) (spD K mg (tab c0 c1 c2) φ_is_less_by 2) := by
  refine atD (N := ["one", "other"]) (f := f_is_less_by) G.t_is_less_by sc_is_less_by (by decide) fun a cdv A outer s H E hr gu => ?_
  have nd := sc_is_less_by.nd
  refine dss_one ?_
  refine ds_ret ?_
  · refine dv_de ?_
    · refine de_lt ?_ ?_
      · refine db_of ?_
        · refine de_mul ?_ ?_
          · refine de_ix ?_ ?_
            · exact db_var 0
            · exact de_int
          · refine de_ix ?_ ?_
            · exact db_var 1
            · exact de_int
      · refine db_of ?_
        · refine de_mul ?_ ?_
          · refine de_ix ?_ ?_
            · exact db_var 1
            · exact de_int
          · refine de_ix ?_ ?_
            · exact db_var 0
            · exact de_int
/-! sum_by: 0 shares, 1 found, 2 share -/
noncomputable def f_sum_by : Fs := (fSeq (fSet 1 (fSD (fC (.tup [.int 0, .int 1])))) (fSeq (fFor [0, 2] (fItL (fVar 0)) (bName 2) (fSet 1 (fSD (fFz (fCallD φ_plus_by (fCons (fVar 1) (fCons (fVar 2) fNil))))))) (fRet (fSD (fVar 1)))))
noncomputable def φ_sum_by : List D → Rd := runD 3 f_sum_by
theorem sc_sum_by : FnScope (["shares", "found", "share"] : List Str) (["shares"] : List Str) (defScope s_sum_by) := ⟨rfl, rfl, rfl, by decide +kernel, rfl, by decide +kernel, by decide +kernel⟩
theorem ok_sum_by (G : Txt P K mg c0 c1 c2) : FnAt P w K mg base "sum_by" 5 (["shares"] : List Str) (spD K mg (tab c0 c1 c2) φ_sum_by 1) := by
  refine atD (N := ["shares", "found", "share"]) (f := f_sum_by) G.t_sum_by sc_sum_by (by decide) fun a cdv A outer s H E hr gu => ?_
  have nd := sc_sum_by.nd
  refine dss_cons ?_ ?_
  · refine ds_set 1 nd ?_
    · refine dv_de ?_
      · exact de_gl G.g_ZERO
  · refine dss_cons ?_ ?_
    · refine ds_for [0, 2] (ws := [2]) (passes_of rfl) rfl ?_ ?_ ?_
      · refine di_list ?_
        · exact de_var 0
      · exact dg_name 2 nd
      · refine dss_one ?_
        refine ds_set 1 nd ?_
        · refine dv_de ?_
          · refine ce_call (ok_plus_by G) hr gu (takes_of rfl rfl rfl rfl) ?_ (len_cons (len_cons len_nil))
            · refine da_cons ?_ ?_
              · exact de_var 1
              · refine da_cons ?_ ?_
                · exact de_var 2
                · exact da_nil
    · refine dss_one ?_
      refine ds_ret ?_
      · refine dv_de ?_
        · exact de_var 1
/-! product_sum_by: 0 ones, 1 others, 2 found, 3 one, 4 other -/
noncomputable def f_product_sum_by : Fs := (fSeq (fSet 2 (fSD (fC (.tup [.int 0, .int 1])))) (fSeq (fFor [0, 1, 3, 4] (fZp (fVar 0) (fVar 1)) (bTup 2 (bsCons (bName 3) (bsCons (bName 4) bsNil))) (fIfS (fAnd (fLook2 oNe (fVal (fIx (fAt 3) (fC (.int 0)))) (fVal (fC (.int 0)))) (fLook2 oNe (fVal (fIx (fAt 4) (fC (.int 0)))) (fVal (fC (.int 0))))) (fSet 2 (fSD (fFz (fCallD φ_plus_by (fCons (fVar 2) (fCons (fFz (fCallD φ_times_by (fCons (fVar 3) (fCons (fVar 4) fNil)))) fNil)))))) fPass)) (fRet (fSD (fVar 2)))))
noncomputable def φ_product_sum_by : List D → Rd := runD 5 f_product_sum_by
theorem sc_product_sum_by : FnScope (["ones", "others", "found", "one", "other"] : List Str) (["ones", "others"] : List Str) (defScope s_product_sum_by) := ⟨rfl, rfl, rfl, by decide +kernel, rfl, by decide +kernel, by decide +kernel⟩
theorem ok_product_sum_by (G : Txt P K mg c0 c1 c2) : FnAt P w K mg base "product_sum_by" 5 (["ones", "others"] : List Str) (spD K mg (tab c0 c1 c2) φ_product_sum_by 2) := by
  refine atD (N := ["ones", "others", "found", "one", "other"]) (f := f_product_sum_by) G.t_product_sum_by sc_product_sum_by (by decide) fun a cdv A outer s H E hr gu => ?_
  have nd := sc_product_sum_by.nd
  refine dss_cons ?_ ?_
  · refine ds_set 2 nd ?_
    · refine dv_de ?_
      · exact de_gl G.g_ZERO
  · refine dss_cons ?_ ?_
    · refine ds_for [0, 1, 3, 4] (ws := [3, 4]) (passes_of rfl) rfl ?_ ?_ ?_
      · refine di_zip rfl G.nb_zip ?_ ?_
        · exact de_var 0
        · exact de_var 1
      · refine dg_tup rfl ?_
        · refine dgs_cons (vs := [3]) (ws := [4]) ?_ ?_
          · exact dg_name 3 nd
          · refine dgs_cons (vs := [4]) (ws := []) ?_ ?_
            · exact dg_name 4 nd
            · exact dgs_nil
      · refine dss_one ?_
        refine ds_if ?_ ?_ ?_
        · refine dt_w ?_
          refine dw_and ?_ ?_
          · refine dt_ne hr.units ?_ ?_
            · refine db_of ?_
              · refine de_ix ?_ ?_
                · exact db_var 3
                · exact de_int
            · refine db_of ?_
              · exact de_int
          · refine dw_and1 ?_
            refine dt_ne hr.units ?_ ?_
            · refine db_of ?_
              · refine de_ix ?_ ?_
                · exact db_var 4
                · exact de_int
            · refine db_of ?_
              · exact de_int
        · refine dss_one ?_
          refine ds_set 2 nd ?_
          · refine dv_de ?_
            · refine ce_call (ok_plus_by G) hr gu (takes_of rfl rfl rfl rfl) ?_ (len_cons (len_cons len_nil))
              · refine da_cons ?_ ?_
                · exact de_var 2
                · refine da_cons ?_ ?_
                  · refine ce_call (ok_times_by G) hr gu (takes_of rfl rfl rfl rfl) ?_ (len_cons (len_cons len_nil))
                    · refine da_cons ?_ ?_
                      · exact de_var 3
                      · refine da_cons ?_ ?_
                        · exact de_var 4
                        · exact da_nil
                  · exact da_nil
        · exact dss_nil
    · refine dss_one ?_
      refine ds_ret ?_
      · refine dv_de ?_
        · exact de_var 2
/-! plain_row: 0 row, 1 factor, 2 number, 3 first -/
noncomputable def f_plain_row : Fs := (fSeq (fSet 1 (fSD (fC (.int 0)))) (fSeq (fFor [2, 3] (fItL (fVar 0)) (bName 2) (fSet 1 (fSD (fFz (fCallD φ_common_factor (fCons (fVar 1) (fCons (fVar 2) fNil))))))) (fSeq (fIfS (fLook2 oEq (fAt 1) (fVal (fC (.int 0)))) (fRet (fSD (fFr (fList (fAt 0))))) fPass) (fSeq (fSet 3 (fSD (fIx (fVal (fFr (fLc [2] (fItL (fVar 0)) (bName 2) (fLook2 oNe (fAt 2) (fVal (fC (.int 0)))) (fVar 2)))) (fC (.int 0))))) (fRet (fSD (fFr (fLc [2] (fItL (fVar 0)) (bName 2) fYes (fIf (fLook2 oGt (fAt 3) (fVal (fC (.int 0)))) (fBin oDiv (fVar 2) (fVar 1)) (fBin oDiv (fUn oNeg (fVar 2)) (fVar 1)))))))))))
noncomputable def φ_plain_row : List D → Rd := runD 4 f_plain_row
theorem sc_plain_row : FnScope (["row", "factor", "number", "first"] : List Str) (["row"] : List Str) (defScope s_plain_row) := ⟨rfl, rfl, rfl, by decide +kernel, rfl, by decide +kernel, by decide +kernel⟩
theorem ok_plain_row (G : Txt P K mg c0 c1 c2) : FnAt P w K mg base "plain_row" 3 (["row"] : List Str) (spD K mg (tab c0 c1 c2) φ_plain_row 1) := by
  refine atD (N := ["row", "factor", "number", "first"]) (f := f_plain_row) G.t_plain_row sc_plain_row (by decide) fun a cdv A outer s H E hr gu => ?_
  have nd := sc_plain_row.nd
  refine dss_cons ?_ ?_
  · refine ds_set 1 nd ?_
    · refine dv_de ?_
      · exact de_int
  · refine dss_cons ?_ ?_
    · refine ds_for [2, 3] (ws := [2]) (passes_of rfl) rfl ?_ ?_ ?_
      · refine di_list ?_
        · exact de_var 0
      · exact dg_name 2 nd
      · refine dss_one ?_
        refine ds_set 1 nd ?_
        · refine dv_de ?_
          · refine ce_call (ok_common_factor G) hr gu (takes_of rfl rfl rfl rfl) ?_ (len_cons (len_cons len_nil))
            · refine da_cons ?_ ?_
              · exact de_var 1
              · refine da_cons ?_ ?_
                · exact de_var 2
                · exact da_nil
    · refine dss_cons ?_ ?_
      · refine ds_if ?_ ?_ ?_
        · refine dt_eq hr.units ?_ ?_
          · exact db_var 1
          · refine db_of ?_
            · exact de_int
        · refine dss_one ?_
          refine ds_ret ?_
          · refine dv_de ?_
            · refine de_frz ?_
              · refine dn_list rfl G.nb_list ?_
                · exact db_var 0
        · exact dss_nil
      · refine dss_cons ?_ ?_
        · refine ds_set 3 nd ?_
          · refine dv_de ?_
            · refine de_ix ?_ ?_
              · refine db_of ?_
                · refine de_frz ?_
                  · refine dn_lc (own' := [("number", 2)]) rfl nd ?_ (blkOk_by rfl) ?_ ?_ ?_
                    · refine di_list ?_
                      · exact de_var 0
                    · intro _ _ _ _ _
                      exact dg_name 2 nd
                    · intro _ _ _ _ _
                      refine dts_one ?_
                      refine dt_ne hr.units ?_ ?_
                      · exact db_var 2
                      · refine db_of ?_
                        · exact de_int
                    · intro _ _ _ _ _
                      exact de_var 2
              · exact de_int
        · refine dss_one ?_
          refine ds_ret ?_
          · refine dv_de ?_
            · refine de_frz ?_
              · refine dn_lc (own' := [("number", 2)]) rfl nd ?_ (blkOk_by rfl) ?_ ?_ ?_
                · refine di_list ?_
                  · exact de_var 0
                · intro _ _ _ _ _
                  exact dg_name 2 nd
                · intro _ _ _ _ _
                  exact dts_nil
                · intro _ _ _ _ _
                  refine de_if ?_ ?_ ?_
                  · refine dt_gt ?_ ?_
                    · exact db_var 3
                    · refine db_of ?_
                      · exact de_int
                  · refine de_div ?_ ?_
                    · exact de_var 2
                    · exact de_var 1
                  · refine de_div ?_ ?_
                    · refine de_neg ?_
                      · exact de_var 2
                    · exact de_var 1
/-! solved_shares: 0 matrix, 1 columns, 2 size, 3 rows, 4 row, 5 more, 6 bottom, 7 share, 8 spot, 9 far, 10 number, 11 pivot, 12 much, 13 one, 14 two -/
noncomputable def f_solved_shares : Fs := (fSeq (fSet 2 (fSD (fLen (fAt 0)))) (fSeq (fSet 3 (fSL (fLst fNil))) (fSeq (fFor [0, 1, 4, 5, 6, 7, 8, 9, 10, 11, 12, 13, 14] (fZp (fVar 0) (fVar 1)) (bTup 2 (bsCons (bName 4) (bsCons (bName 5) bsNil))) (fSeq (fSet 6 (fSD (fC (.int 1)))) (fSeq (fFor [0, 1, 7, 8, 9, 10, 11, 12, 13, 14] (fItL (fFr (fCat (fVal (fFr (fList (fAt 4)))) (fVal (fFr (fList (fAt 5))))))) (bName 7) (fSet 6 (fSD (fBin oDiv (fBin oMul (fVar 6) (fIx (fAt 7) (fC (.int 1)))) (fFz (fCallD φ_common_factor (fCons (fVar 6) (fCons (fIx (fAt 7) (fC (.int 1))) fNil)))))))) (fApp 3 (fFr (fLc [7] (fItL (fFr (fCat (fVal (fFr (fList (fAt 4)))) (fVal (fFr (fList (fAt 5))))))) (bName 7) fYes (fBin oMul (fIx (fAt 7) (fC (.int 0))) (fBin oDiv (fVar 6) (fIx (fAt 7) (fC (.int 1))))))))))) (fSeq (fFor [0, 1, 4, 5, 6, 7, 8, 9, 10, 11, 12, 13, 14] (fRg1 (fVar 2)) (bName 8) (fSeq (fSet 9 (fSD (fFr (fLc [10] (fRg2 (fVar 8) (fVar 2)) (bName 10) (fLook2 oNe (fVal (fIx (fVal (fIx (fAt 3) (fVar 10))) (fVar 8))) (fVal (fC (.int 0)))) (fVar 10))))) (fSeq (fIfS (fLook2 oEq (fAt 9) (fVal (fFr (fLst fNil)))) (fRet (fSD (fC .non))) fPass) (fSeq (fAsg (fTup (fCons (fIx (fAt 3) (fIx (fAt 9) (fC (.int 0)))) (fCons (fIx (fAt 3) (fVar 8)) fNil))) (bTup 2 (bsCons (bSub 3 (fVar 8)) (bsCons (bSub 3 (fIx (fAt 9) (fC (.int 0)))) bsNil)))) (fSeq (fSet 11 (fSD (fIx (fAt 3) (fVar 8)))) (fFor [0, 1, 4, 5, 6, 7, 9, 10, 12, 13, 14] (fRg1 (fVar 2)) (bName 10) (fSeq (fSet 12 (fSD (fIx (fVal (fIx (fAt 3) (fVar 10))) (fVar 8)))) (fIfS (fAnd (fLook2 oNe (fAt 10) (fAt 8)) (fLook2 oNe (fAt 12) (fVal (fC (.int 0))))) (fAsg (fFz (fCallD φ_plain_row (fCons (fFr (fLc [13, 14] (fZp (fIx (fAt 3) (fVar 10)) (fVar 11)) (bTup 2 (bsCons (bName 13) (bsCons (bName 14) bsNil))) fYes (fBin oSub (fBin oMul (fVar 13) (fIx (fAt 11) (fVar 8))) (fBin oMul (fVar 14) (fVar 12))))) fNil))) (bSub 3 (fVar 10))) fPass)))))))) (fRet (fSD (fFr (fLc [8, 4] (fEnL (fVar 3)) (bTup 2 (bsCons (bName 8) (bsCons (bName 4) bsNil))) fYes (fFr (fLc [13] (fItL (fFr (fCut (fAt 4) (fSo (fVar 2)) fNo))) (bName 13) fYes (fIf (fLook2 oNe (fAt 13) (fVal (fC (.int 0)))) (fFz (fCallD φ_made_share (fCons (fVar 13) (fCons (fIx (fAt 4) (fVar 8)) fNil)))) (fC (.tup [.int 0, .int 1])))))))))))))
noncomputable def φ_solved_shares : List D → Rd := runD 15 f_solved_shares
theorem sc_solved_shares : FnScope (["matrix", "columns", "size", "rows", "row", "more", "bottom", "share", "spot", "far", "number", "pivot", "much", "one", "two"] : List Str) (["matrix", "columns"] : List Str) (defScope s_solved_shares) := ⟨rfl, rfl, rfl, by decide +kernel, rfl, by decide +kernel, by decide +kernel⟩
theorem ok_solved_shares (G : Txt P K mg c0 c1 c2) : FnAt P w K mg base "solved_shares" 4 (["matrix", "columns"] : List Str) (spD K mg (tab c0 c1 c2) φ_solved_shares 2) := by
  refine atD (N := ["matrix", "columns", "size", "rows", "row", "more", "bottom", "share", "spot", "far", "number", "pivot", "much", "one", "two"]) (f := f_solved_shares) G.t_solved_shares sc_solved_shares (by decide) fun a cdv A outer s H E hr gu => ?_
  have nd := sc_solved_shares.nd
  refine dss_cons ?_ ?_
  · refine ds_set 2 nd ?_
    · refine dv_de ?_
      · refine de_len rfl G.nb_len ?_
        · exact db_var 0
  · refine dss_cons ?_ ?_
    · refine ds_set 3 nd ?_
      · refine dv_dn ?_
        · refine dn_lst ?_
          · exact da_nil
    · refine dss_cons ?_ ?_
      · refine ds_for [0, 1, 4, 5, 6, 7, 8, 9, 10, 11, 12, 13, 14] (ws := [4, 5]) (passes_of rfl) rfl ?_ ?_ ?_
        · refine di_zip rfl G.nb_zip ?_ ?_
          · exact de_var 0
          · exact de_var 1
        · refine dg_tup rfl ?_
          · refine dgs_cons (vs := [4]) (ws := [5]) ?_ ?_
            · exact dg_name 4 nd
            · refine dgs_cons (vs := [5]) (ws := []) ?_ ?_
              · exact dg_name 5 nd
              · exact dgs_nil
        · refine dss_cons ?_ ?_
          · refine ds_set 6 nd ?_
            · refine dv_de ?_
              · exact de_int
          · refine dss_cons ?_ ?_
            · refine ds_for [0, 1, 7, 8, 9, 10, 11, 12, 13, 14] (ws := [7]) (passes_of rfl) rfl ?_ ?_ ?_
              · refine di_list ?_
                · refine de_frz ?_
                  · refine dn_cat ?_ ?_
                    · refine db_of ?_
                      · refine de_frz ?_
                        · refine dn_list rfl G.nb_list ?_
                          · exact db_var 4
                    · refine db_of ?_
                      · refine de_frz ?_
                        · refine dn_list rfl G.nb_list ?_
                          · exact db_var 5
              · exact dg_name 7 nd
              · refine dss_one ?_
                refine ds_set 6 nd ?_
                · refine dv_de ?_
                  · refine de_div ?_ ?_
                    · refine de_mul ?_ ?_
                      · exact de_var 6
                      · refine de_ix ?_ ?_
                        · exact db_var 7
                        · exact de_int
                    · refine ce_call (ok_common_factor G) hr gu (takes_of rfl rfl rfl rfl) ?_ (len_cons (len_cons len_nil))
                      · refine da_cons ?_ ?_
                        · exact de_var 6
                        · refine da_cons ?_ ?_
                          · refine de_ix ?_ ?_
                            · exact db_var 7
                            · exact de_int
                          · exact da_nil
            · refine dss_one ?_
              refine ds_append 3 ?_
              · refine de_frz ?_
                · refine dn_lc (own' := [("share", 7)]) rfl nd ?_ (blkOk_by rfl) ?_ ?_ ?_
                  · refine di_list ?_
                    · refine de_frz ?_
                      · refine dn_cat ?_ ?_
                        · refine db_of ?_
                          · refine de_frz ?_
                            · refine dn_list rfl G.nb_list ?_
                              · exact db_var 4
                        · refine db_of ?_
                          · refine de_frz ?_
                            · refine dn_list rfl G.nb_list ?_
                              · exact db_var 5
                  · intro _ _ _ _ _
                    exact dg_name 7 nd
                  · intro _ _ _ _ _
                    exact dts_nil
                  · intro _ _ _ _ _
                    refine de_mul ?_ ?_
                    · refine de_ix ?_ ?_
                      · exact db_var 7
                      · exact de_int
                    · refine de_div ?_ ?_
                      · exact de_var 6
                      · refine de_ix ?_ ?_
                        · exact db_var 7
                        · exact de_int
      · refine dss_cons ?_ ?_
        · refine ds_for [0, 1, 4, 5, 6, 7, 8, 9, 10, 11, 12, 13, 14] (ws := [8]) (passes_of rfl) rfl ?_ ?_ ?_
          · refine di_range1 rfl G.nb_range ?_
            · exact de_var 2
          · exact dg_name 8 nd
          · refine dss_cons ?_ ?_
            · refine ds_setLc 9 (own' := [("number", 10)]) imp_fz rfl nd ?_ (blkOk_by rfl) ?_ ?_ ?_
              · refine di_range2 rfl G.nb_range ?_ ?_
                · exact de_var 8
                · exact de_var 2
              · intro _ _ _ _ _
                exact dg_name 10 nd
              · intro _ _ _ _ _
                refine dts_one ?_
                refine dt_ne hr.units ?_ ?_
                · refine db_of ?_
                  · refine de_ix ?_ ?_
                    · refine db_of ?_
                      · refine de_ix ?_ ?_
                        · exact db_var 3
                        · exact de_var 10
                    · exact de_var 8
                · refine db_of ?_
                  · exact de_int
              · intro _ _ _ _ _
                exact de_var 10
            · refine dss_cons ?_ ?_
              · refine ds_if ?_ ?_ ?_
                · refine dt_eq hr.units ?_ ?_
                  · exact db_var 9
                  · refine db_of ?_
                    · refine de_frz ?_
                      · refine dn_lst ?_
                        · exact da_nil
                · refine dss_one ?_
                  refine ds_ret ?_
                  · refine dv_de ?_
                    · exact de_non
                · exact dss_nil
              · refine dss_cons ?_ ?_
                · refine ds_asg (vs := []) ?_ ?_
                  · refine de_tup ?_
                    · refine da_cons ?_ ?_
                      · refine de_ix ?_ ?_
                        · exact db_var 3
                        · refine de_ix ?_ ?_
                          · exact db_var 9
                          · exact de_int
                      · refine da_cons ?_ ?_
                        · refine de_ix ?_ ?_
                          · exact db_var 3
                          · exact de_var 8
                        · exact da_nil
                  · refine dg_tup rfl ?_
                    · refine dgs_cons (vs := []) (ws := []) ?_ ?_
                      · refine dg_sub 3 ?_
                        · exact de_var 8
                      · refine dgs_cons (vs := []) (ws := []) ?_ ?_
                        · refine dg_sub 3 ?_
                          · refine de_ix ?_ ?_
                            · exact db_var 9
                            · exact de_int
                        · exact dgs_nil
                · refine dss_cons ?_ ?_
                  · refine ds_set 11 nd ?_
                    · refine dv_de ?_
                      · refine de_ix ?_ ?_
                        · exact db_var 3
                        · exact de_var 8
                  · refine dss_one ?_
                    refine ds_for [0, 1, 4, 5, 6, 7, 9, 10, 12, 13, 14] (ws := [10]) (passes_of rfl) rfl ?_ ?_ ?_
                    · refine di_range1 rfl G.nb_range ?_
                      · exact de_var 2
                    · exact dg_name 10 nd
                    · refine dss_cons ?_ ?_
                      · refine ds_set 12 nd ?_
                        · refine dv_de ?_
                          · refine de_ix ?_ ?_
                            · refine db_of ?_
                              · refine de_ix ?_ ?_
                                · exact db_var 3
                                · exact de_var 10
                            · exact de_var 8
                      · refine dss_one ?_
                        refine ds_if ?_ ?_ ?_
                        · refine dt_w ?_
                          refine dw_and ?_ ?_
                          · refine dt_ne hr.units ?_ ?_
                            · exact db_var 10
                            · exact db_var 8
                          · refine dw_and1 ?_
                            refine dt_ne hr.units ?_ ?_
                            · exact db_var 12
                            · refine db_of ?_
                              · exact de_int
                        · refine dss_one ?_
                          refine ds_asg (vs := []) ?_ ?_
                          · refine ce_call (ok_plain_row G) hr gu (takes_of rfl rfl rfl rfl) ?_ (len_cons len_nil)
                            · refine da_cons ?_ ?_
                              · refine de_frz ?_
                                · refine dn_lc (own' := [("one", 13), ("two", 14)]) rfl nd ?_ (blkOk_by rfl) ?_ ?_ ?_
                                  · refine di_zip rfl G.nb_zip ?_ ?_
                                    · refine de_ix ?_ ?_
                                      · exact db_var 3
                                      · exact de_var 10
                                    · exact de_var 11
                                  · intro _ _ _ _ _
                                    refine dg_tup rfl ?_
                                    · refine dgs_cons (vs := [13]) (ws := [14]) ?_ ?_
                                      · exact dg_name 13 nd
                                      · refine dgs_cons (vs := [14]) (ws := []) ?_ ?_
                                        · exact dg_name 14 nd
                                        · exact dgs_nil
                                  · intro _ _ _ _ _
                                    exact dts_nil
                                  · intro _ _ _ _ _
                                    refine de_sub ?_ ?_
                                    · refine de_mul ?_ ?_
                                      · exact de_var 13
                                      · refine de_ix ?_ ?_
                                        · exact db_var 11
                                        · exact de_var 8
                                    · refine de_mul ?_ ?_
                                      · exact de_var 14
                                      · exact de_var 12
                              · exact da_nil
                          · refine dg_sub 3 ?_
                            · exact de_var 10
                        · exact dss_nil
        · refine dss_one ?_
          refine ds_ret ?_
          · refine dv_de ?_
            · refine de_frz ?_
              · refine dn_lc (own' := [("spot", 8), ("row", 4)]) rfl nd ?_ (blkOk_by rfl) ?_ ?_ ?_
                · refine di_enL rfl G.nb_enumerate ?_
                  · exact de_var 3
                · intro _ _ _ _ _
                  refine dg_tup rfl ?_
                  · refine dgs_cons (vs := [8]) (ws := [4]) ?_ ?_
                    · exact dg_name 8 nd
                    · refine dgs_cons (vs := [4]) (ws := []) ?_ ?_
                      · exact dg_name 4 nd
                      · exact dgs_nil
                · intro _ _ _ _ _
                  exact dts_nil
                · intro _ _ _ _ _
                  refine de_frz ?_
                  · refine dn_lc (own' := [("one", 13)]) rfl nd ?_ (blkOk_by rfl) ?_ ?_ ?_
                    · refine di_list ?_
                      · refine de_frz ?_
                        · refine dn_cut ?_ ?_ ?_
                          · exact db_var 4
                          · refine do_some ?_
                            · exact de_var 2
                          · exact do_none
                    · intro _ _ _ _ _
                      exact dg_name 13 nd
                    · intro _ _ _ _ _
                      exact dts_nil
                    · intro _ _ _ _ _
                      refine de_if ?_ ?_ ?_
                      · refine dt_ne hr.units ?_ ?_
                        · exact db_var 13
                        · refine db_of ?_
                          · exact de_int
                      · refine ce_call (ok_made_share G) hr gu takes_none5 ?_ (len_cons (len_cons len_nil))
                        · refine da_cons ?_ ?_
                          · exact de_var 13
                          · refine da_cons ?_ ?_
                            · refine de_ix ?_ ?_
                              · exact db_var 4
                              · exact de_var 8
                            · exact da_nil
                      · exact de_gl G.g_ZERO
/-! is_step: 0 thing, 1 rooms, 2 signs, 3 outs -/
noncomputable def f_is_step : Fs := (fSeq (fIfS (fOr (fNot (fTb (fFz (fCallD φ_is_tuple_of (fCons (fVar 0) (fCons (fC (.int 4)) (fCons (fC (.int 4)) fNil))))))) (fOr (fNot (fTb (fFz (fCallD φ_is_among (fCons (fIx (fAt 0) (fC (.int 0))) (fCons (fC (.int 0)) (fCons (fBin oSub (fVar 1) (fC (.int 1))) fNil))))))) (fNot (fTb (fFz (fCallD φ_is_among (fCons (fIx (fAt 0) (fC (.int 1))) (fCons (fC (.int 0)) (fCons (fVar 2) fNil))))))))) (fRet (fSD (fC (.bl false)))) fPass) (fSeq (fIfS (fOr (fNot (fTb (fFz (fCallD φ_is_among (fCons (fIx (fAt 0) (fC (.int 2))) (fCons (fC (.int 0)) (fCons (fBin oSub (fBin oAdd (fVar 1) (fVar 3)) (fC (.int 1))) fNil))))))) (fNot (fTb (fFz (fCallD φ_is_small_share (fCons (fIx (fAt 0) (fC (.int 3))) fNil)))))) (fRet (fSD (fC (.bl false)))) fPass) (fRet (fSD (fBl (fChain (fun i j => decide (i < j)) (fun i j => decide (i ≤ j)) (fC (.int 0)) (fIx (fVal (fIx (fAt 0) (fC (.int 3)))) (fC (.int 0))) (fIx (fVal (fIx (fAt 0) (fC (.int 3)))) (fC (.int 1)))))))))
noncomputable def φ_is_step : List D → Rd := runD 4 f_is_step
theorem sc_is_step : FnScope (["thing", "rooms", "signs", "outs"] : List Str) (["thing", "rooms", "signs", "outs"] : List Str) (defScope s_is_step) := ⟨rfl, rfl, rfl, by decide +kernel, rfl, by decide +kernel, by decide +kernel⟩
theorem ok_is_step (G : Txt P K mg c0 c1 c2) : FnAt P w K mg base "is_step" 5 (["thing", "rooms", "signs", "outs"] : List Str) (spD K mg (tab c0 c1 c2) φ_is_step 4) := by
  refine atD (N := ["thing", "rooms", "signs", "outs"]) (f := f_is_step) G.t_is_step sc_is_step (by decide) fun a cdv A outer s H E hr gu => ?_
  have nd := sc_is_step.nd
  refine dss_cons ?_ ?_
  · refine ds_if ?_ ?_ ?_
    · refine dt_w ?_
      refine dw_or ?_ ?_
      · refine dt_not ?_
        · refine dt_val ?_
          · refine ce_call (ok_is_tuple_of G) hr gu (takes_of rfl rfl rfl rfl) ?_ (len_cons (len_cons (len_cons len_nil)))
            · refine da_cons ?_ ?_
              · exact de_var 0
              · refine da_cons ?_ ?_
                · exact de_int
                · refine da_cons ?_ ?_
                  · exact de_int
                  · exact da_nil
      · refine dw_or ?_ ?_
        · refine dt_not ?_
          · refine dt_val ?_
            · refine ce_call (ok_is_among G) hr gu (takes_of rfl rfl rfl rfl) ?_ (len_cons (len_cons (len_cons len_nil)))
              · refine da_cons ?_ ?_
                · refine de_ix ?_ ?_
                  · exact db_var 0
                  · exact de_int
                · refine da_cons ?_ ?_
                  · exact de_int
                  · refine da_cons ?_ ?_
                    · refine de_sub ?_ ?_
                      · exact de_var 1
                      · exact de_int
                    · exact da_nil
        · refine dw_or1 ?_
          refine dt_not ?_
          · refine dt_val ?_
            · refine ce_call (ok_is_among G) hr gu (takes_of rfl rfl rfl rfl) ?_ (len_cons (len_cons (len_cons len_nil)))
              · refine da_cons ?_ ?_
                · refine de_ix ?_ ?_
                  · exact db_var 0
                  · exact de_int
                · refine da_cons ?_ ?_
                  · exact de_int
                  · refine da_cons ?_ ?_
                    · exact de_var 2
                    · exact da_nil
    · refine dss_one ?_
      refine ds_ret ?_
      · refine dv_de ?_
        · exact de_bl
    · exact dss_nil
  · refine dss_cons ?_ ?_
    · refine ds_if ?_ ?_ ?_
      · refine dt_w ?_
        refine dw_or ?_ ?_
        · refine dt_not ?_
          · refine dt_val ?_
            · refine ce_call (ok_is_among G) hr gu (takes_of rfl rfl rfl rfl) ?_ (len_cons (len_cons (len_cons len_nil)))
              · refine da_cons ?_ ?_
                · refine de_ix ?_ ?_
                  · exact db_var 0
                  · exact de_int
                · refine da_cons ?_ ?_
                  · exact de_int
                  · refine da_cons ?_ ?_
                    · refine de_sub ?_ ?_
                      · refine de_add ?_ ?_
                        · exact de_var 1
                        · exact de_var 3
                      · exact de_int
                    · exact da_nil
        · refine dw_or1 ?_
          refine dt_not ?_
          · refine dt_val ?_
            · refine ce_call (ok_is_small_share G) hr gu (takes_of rfl rfl rfl rfl) ?_ (len_cons len_nil)
              · refine da_cons ?_ ?_
                · refine de_ix ?_ ?_
                  · exact db_var 0
                  · exact de_int
                · exact da_nil
      · refine dss_one ?_
        refine ds_ret ?_
        · refine dv_de ?_
          · exact de_bl
      · exact dss_nil
    · refine dss_one ?_
      refine ds_ret ?_
      · refine dv_de ?_
        · refine de_chain op_lt op_le ?_ ?_ ?_
          · exact de_int
          · refine de_ix ?_ ?_
            · refine db_of ?_
              · refine de_ix ?_ ?_
                · exact db_var 0
                · exact de_int
            · exact de_int
          · refine de_ix ?_ ?_
            · refine db_of ?_
              · refine de_ix ?_ ?_
                · exact db_var 0
                · exact de_int
            · exact de_int
/-! need_piece: 0 piece, 1 rooms, 2 signs, 3 steps, 4 ins, 5 outs, 6 place, 7 most, 8 number, 9 room, 10 step -/
noncomputable def f_need_piece : Fs := (fSeq (fIfS (fNot (fTb (fFz (fCallD φ_is_tuple_of (fCons (fVar 0) (fCons (fC (.int 5)) (fCons (fC (.int 5)) fNil))))))) (fRaise 0 (fC .non)) fPass) (fSeq (fAsg (fVar 0) (bTup 5 (bsCons (bName 1) (bsCons (bName 2) (bsCons (bName 3) (bsCons (bName 4) (bsCons (bName 5) bsNil))))))) (fSeq (fFor [6, 7, 8, 9, 10] (fItT (fTup (fCons (fTup (fCons (fC (.int 0)) (fCons (fC (.int 12)) fNil))) (fCons (fTup (fCons (fC (.int 1)) (fCons (fC (.int 3)) fNil))) (fCons (fTup (fCons (fC (.int 4)) (fCons (fC (.int 3)) fNil))) fNil))))) (bTup 2 (bsCons (bName 6) (bsCons (bName 7) bsNil))) (fIfS (fNot (fTb (fFz (fCallD φ_is_among (fCons (fIx (fAt 0) (fVar 6)) (fCons (fC (.int 0)) (fCons (fVar 7) fNil))))))) (fRaise 0 (fVar 6)) fPass)) (fSeq (fIfS (fNot (fTb (fFz (fCallD φ_is_tuple_of (fCons (fVar 4) (fCons (fC (.int 0)) (fCons (fC (.int 3)) fNil))))))) (fRaise 0 (fC (.int 3))) fPass) (fSeq (fFor [4, 6, 7, 8, 9, 10] (fEnT (fVar 4)) (bTup 2 (bsCons (bName 8) (bsCons (bName 9) bsNil))) (fIfS (fNot (fTb (fFz (fCallD φ_is_among (fCons (fVar 9) (fCons (fC (.int 0)) (fCons (fBin oSub (fVar 1) (fC (.int 1))) fNil))))))) (fRaise 0 (fTup (fCons (fC (.int 3)) (fCons (fVar 8) fNil)))) fPass)) (fSeq (fIfS (fNot (fTb (fFz (fCallD φ_is_tuple_of (fCons (fVar 3) (fCons (fC (.int 0)) (fCons (fC (.int 40)) fNil))))))) (fRaise 0 (fC (.int 2))) fPass) (fSeq (fFor [4, 6, 7, 8, 9, 10] (fEnT (fVar 3)) (bTup 2 (bsCons (bName 8) (bsCons (bName 10) bsNil))) (fIfS (fNot (fTb (fFz (fCallD φ_is_step (fCons (fVar 10) (fCons (fVar 1) (fCons (fVar 2) (fCons (fVar 5) fNil)))))))) (fRaise 0 (fTup (fCons (fC (.int 2)) (fCons (fVar 8) fNil)))) fPass)) (fSeq (fFor [1, 2, 4, 5, 6, 7, 8, 9, 10] (fRg1 (fVar 1)) (bName 9) (fIfS (fTb (fFz (fCallD φ_is_less_by (fCons (fC (.tup [.int 1, .int 1])) (fCons (fFz (fCallD φ_sum_by (fCons (fFr (fLc [10] (fItT (fVar 3)) (bName 10) (fLook2 oEq (fVal (fIx (fAt 10) (fC (.int 0)))) (fAt 9)) (fIx (fAt 10) (fC (.int 3))))) fNil))) fNil))))) (fRaise 0 (fTup (fCons (fC (.str "sum")) (fCons (fVar 9) fNil)))) fPass)) (fRet (fSD (fVar 0)))))))))))
noncomputable def φ_need_piece : List D → Rd := runD 11 f_need_piece
theorem sc_need_piece : FnScope (["piece", "rooms", "signs", "steps", "ins", "outs", "place", "most", "number", "room", "step"] : List Str) (["piece"] : List Str) (defScope s_need_piece) := ⟨rfl, rfl, rfl, by decide +kernel, rfl, by decide +kernel, by decide +kernel⟩
theorem ok_need_piece (G : Txt P K mg c0 c1 c2) : FnAt P w K mg base "need_piece" 6 (["piece"] : List Str) (spD K mg (tab c0 c1 c2) φ_need_piece 1) := by
  refine atD (N := ["piece", "rooms", "signs", "steps", "ins", "outs", "place", "most", "number", "room", "step"]) (f := f_need_piece) G.t_need_piece sc_need_piece (by decide) fun a cdv A outer s H E hr gu => ?_
  have nd := sc_need_piece.nd
  refine dss_cons ?_ ?_
  · refine ds_if ?_ ?_ ?_
    · refine dt_not ?_
      · refine dt_val ?_
        · refine ce_call (ok_is_tuple_of G) hr gu (takes_of rfl rfl rfl rfl) ?_ (len_cons (len_cons (len_cons len_nil)))
          · refine da_cons ?_ ?_
            · exact de_var 0
            · refine da_cons ?_ ?_
              · exact de_int
              · refine da_cons ?_ ?_
                · exact de_int
                · exact da_nil
    · refine dss_one ?_
      refine ds_raiseA 0 rfl G.x_0 (.inl rfl) G.nb_super hr G.xg_0 (takes_of rfl rfl rfl rfl) rfl ?_
      · exact de_non
    · exact dss_nil
  · refine dss_cons ?_ ?_
    · refine ds_asg (vs := [1, 2, 3, 4, 5]) ?_ ?_
      · exact de_var 0
      · refine dg_tup rfl ?_
        · refine dgs_cons (vs := [1]) (ws := [2, 3, 4, 5]) ?_ ?_
          · exact dg_name 1 nd
          · refine dgs_cons (vs := [2]) (ws := [3, 4, 5]) ?_ ?_
            · exact dg_name 2 nd
            · refine dgs_cons (vs := [3]) (ws := [4, 5]) ?_ ?_
              · exact dg_name 3 nd
              · refine dgs_cons (vs := [4]) (ws := [5]) ?_ ?_
                · exact dg_name 4 nd
                · refine dgs_cons (vs := [5]) (ws := []) ?_ ?_
                  · exact dg_name 5 nd
                  · exact dgs_nil
    · refine dss_cons ?_ ?_
      · refine ds_for [6, 7, 8, 9, 10] (ws := [6, 7]) (passes_of rfl) rfl ?_ ?_ ?_
        · refine di_tup ?_
          · refine de_tup ?_
            · refine da_cons ?_ ?_
              · refine de_tup ?_
                · refine da_cons ?_ ?_
                  · exact de_int
                  · refine da_cons ?_ ?_
                    · exact de_gl G.g_MOST_ROOMS
                    · exact da_nil
              · refine da_cons ?_ ?_
                · refine de_tup ?_
                  · refine da_cons ?_ ?_
                    · exact de_int
                    · refine da_cons ?_ ?_
                      · exact de_gl G.g_MOST_SIGNS
                      · exact da_nil
                · refine da_cons ?_ ?_
                  · refine de_tup ?_
                    · refine da_cons ?_ ?_
                      · exact de_int
                      · refine da_cons ?_ ?_
                        · exact de_gl G.g_MOST_DOORS
                        · exact da_nil
                  · exact da_nil
        · refine dg_tup rfl ?_
          · refine dgs_cons (vs := [6]) (ws := [7]) ?_ ?_
            · exact dg_name 6 nd
            · refine dgs_cons (vs := [7]) (ws := []) ?_ ?_
              · exact dg_name 7 nd
              · exact dgs_nil
        · refine dss_one ?_
          refine ds_if ?_ ?_ ?_
          · refine dt_not ?_
            · refine dt_val ?_
              · refine ce_call (ok_is_among G) hr gu (takes_of rfl rfl rfl rfl) ?_ (len_cons (len_cons (len_cons len_nil)))
                · refine da_cons ?_ ?_
                  · refine de_ix ?_ ?_
                    · exact db_var 0
                    · exact de_var 6
                  · refine da_cons ?_ ?_
                    · exact de_int
                    · refine da_cons ?_ ?_
                      · exact de_var 7
                      · exact da_nil
          · refine dss_one ?_
            refine ds_raiseA 0 rfl G.x_0 (.inl rfl) G.nb_super hr G.xg_0 (takes_of rfl rfl rfl rfl) rfl ?_
            · exact de_var 6
          · exact dss_nil
      · refine dss_cons ?_ ?_
        · refine ds_if ?_ ?_ ?_
          · refine dt_not ?_
            · refine dt_val ?_
              · refine ce_call (ok_is_tuple_of G) hr gu (takes_of rfl rfl rfl rfl) ?_ (len_cons (len_cons (len_cons len_nil)))
                · refine da_cons ?_ ?_
                  · exact de_var 4
                  · refine da_cons ?_ ?_
                    · exact de_int
                    · refine da_cons ?_ ?_
                      · exact de_gl G.g_MOST_DOORS
                      · exact da_nil
          · refine dss_one ?_
            refine ds_raiseA 0 rfl G.x_0 (.inl rfl) G.nb_super hr G.xg_0 (takes_of rfl rfl rfl rfl) rfl ?_
            · exact de_int
          · exact dss_nil
        · refine dss_cons ?_ ?_
          · refine ds_for [4, 6, 7, 8, 9, 10] (ws := [8, 9]) (passes_of rfl) rfl ?_ ?_ ?_
            · refine di_enT rfl G.nb_enumerate ?_
              · exact de_var 4
            · refine dg_tup rfl ?_
              · refine dgs_cons (vs := [8]) (ws := [9]) ?_ ?_
                · exact dg_name 8 nd
                · refine dgs_cons (vs := [9]) (ws := []) ?_ ?_
                  · exact dg_name 9 nd
                  · exact dgs_nil
            · refine dss_one ?_
              refine ds_if ?_ ?_ ?_
              · refine dt_not ?_
                · refine dt_val ?_
                  · refine ce_call (ok_is_among G) hr gu (takes_of rfl rfl rfl rfl) ?_ (len_cons (len_cons (len_cons len_nil)))
                    · refine da_cons ?_ ?_
                      · exact de_var 9
                      · refine da_cons ?_ ?_
                        · exact de_int
                        · refine da_cons ?_ ?_
                          · refine de_sub ?_ ?_
                            · exact de_var 1
                            · exact de_int
                          · exact da_nil
              · refine dss_one ?_
                refine ds_raiseA 0 rfl G.x_0 (.inl rfl) G.nb_super hr G.xg_0 (takes_of rfl rfl rfl rfl) rfl ?_
                · refine de_tup ?_
                  · refine da_cons ?_ ?_
                    · exact de_int
                    · refine da_cons ?_ ?_
                      · exact de_var 8
                      · exact da_nil
              · exact dss_nil
          · refine dss_cons ?_ ?_
            · refine ds_if ?_ ?_ ?_
              · refine dt_not ?_
                · refine dt_val ?_
                  · refine ce_call (ok_is_tuple_of G) hr gu (takes_of rfl rfl rfl rfl) ?_ (len_cons (len_cons (len_cons len_nil)))
                    · refine da_cons ?_ ?_
                      · exact de_var 3
                      · refine da_cons ?_ ?_
                        · exact de_int
                        · refine da_cons ?_ ?_
                          · exact de_gl G.g_MOST_STEPS
                          · exact da_nil
              · refine dss_one ?_
                refine ds_raiseA 0 rfl G.x_0 (.inl rfl) G.nb_super hr G.xg_0 (takes_of rfl rfl rfl rfl) rfl ?_
                · exact de_int
              · exact dss_nil
            · refine dss_cons ?_ ?_
              · refine ds_for [4, 6, 7, 8, 9, 10] (ws := [8, 10]) (passes_of rfl) rfl ?_ ?_ ?_
                · refine di_enT rfl G.nb_enumerate ?_
                  · exact de_var 3
                · refine dg_tup rfl ?_
                  · refine dgs_cons (vs := [8]) (ws := [10]) ?_ ?_
                    · exact dg_name 8 nd
                    · refine dgs_cons (vs := [10]) (ws := []) ?_ ?_
                      · exact dg_name 10 nd
                      · exact dgs_nil
                · refine dss_one ?_
                  refine ds_if ?_ ?_ ?_
                  · refine dt_not ?_
                    · refine dt_val ?_
                      · refine ce_call (ok_is_step G) hr gu (takes_of rfl rfl rfl rfl) ?_ (len_cons (len_cons (len_cons (len_cons len_nil))))
                        · refine da_cons ?_ ?_
                          · exact de_var 10
                          · refine da_cons ?_ ?_
                            · exact de_var 1
                            · refine da_cons ?_ ?_
                              · exact de_var 2
                              · refine da_cons ?_ ?_
                                · exact de_var 5
                                · exact da_nil
                  · refine dss_one ?_
                    refine ds_raiseA 0 rfl G.x_0 (.inl rfl) G.nb_super hr G.xg_0 (takes_of rfl rfl rfl rfl) rfl ?_
                    · refine de_tup ?_
                      · refine da_cons ?_ ?_
                        · exact de_int
                        · refine da_cons ?_ ?_
                          · exact de_var 8
                          · exact da_nil
                  · exact dss_nil
              · refine dss_cons ?_ ?_
                · refine ds_for [1, 2, 4, 5, 6, 7, 8, 9, 10] (ws := [9]) (passes_of rfl) rfl ?_ ?_ ?_
                  · refine di_range1 rfl G.nb_range ?_
                    · exact de_var 1
                  · exact dg_name 9 nd
                  · refine dss_one ?_
                    refine ds_if ?_ ?_ ?_
                    · refine dt_val ?_
                      · refine ce_call (ok_is_less_by G) hr gu (takes_of rfl rfl rfl rfl) ?_ (len_cons (len_cons len_nil))
                        · refine da_cons ?_ ?_
                          · exact de_gl G.g_ONE
                          · refine da_cons ?_ ?_
                            · refine ce_call (ok_sum_by G) hr gu (takes_of rfl rfl rfl rfl) ?_ (len_cons len_nil)
                              · refine da_cons ?_ ?_
                                · refine de_frz ?_
                                  · refine dn_lc (own' := [("step", 10)]) rfl nd ?_ (blkOk_by rfl) ?_ ?_ ?_
                                    · refine di_tup ?_
                                      · exact de_var 3
                                    · intro _ _ _ _ _
                                      exact dg_name 10 nd
                                    · intro _ _ _ _ _
                                      refine dts_one ?_
                                      refine dt_eq hr.units ?_ ?_
                                      · refine db_of ?_
                                        · refine de_ix ?_ ?_
                                          · exact db_var 10
                                          · exact de_int
                                      · exact db_var 9
                                    · intro _ _ _ _ _
                                      refine de_ix ?_ ?_
                                      · exact db_var 10
                                      · exact de_int
                                · exact da_nil
                            · exact da_nil
                    · refine dss_one ?_
                      refine ds_raiseA 0 rfl G.x_0 (.inl rfl) G.nb_super hr G.xg_0 (takes_of rfl rfl rfl rfl) rfl ?_
                      · refine de_tup ?_
                        · refine da_cons ?_ ?_
                          · exact de_str
                          · refine da_cons ?_ ?_
                            · exact de_var 9
                            · exact da_nil
                    · exact dss_nil
                · refine dss_one ?_
                  refine ds_ret ?_
                  · refine dv_de ?_
                    · exact de_var 0
/-! need_begin_room: 0 piece, 1 room -/
noncomputable def f_need_begin_room : Fs := (fSeq (fIfS (fNot (fTb (fFz (fCallD φ_is_among (fCons (fVar 1) (fCons (fC (.int 0)) (fCons (fBin oSub (fIx (fAt 0) (fC (.int 0))) (fC (.int 1))) fNil))))))) (fRaise 2 (fVar 1)) fPass) (fRet (fSD (fVar 1))))
noncomputable def φ_need_begin_room : List D → Rd := runD 2 f_need_begin_room
theorem sc_need_begin_room : FnScope (["piece", "room"] : List Str) (["piece", "room"] : List Str) (defScope s_need_begin_room) := ⟨rfl, rfl, rfl, by decide +kernel, rfl, by decide +kernel, by decide +kernel⟩
theorem ok_need_begin_room (G : Txt P K mg c0 c1 c2) : FnAt P w K mg base "need_begin_room" 4 (["piece", "room"] : List Str) (spD K mg (tab c0 c1 c2) φ_need_begin_room 2) := by
  refine atD (N := ["piece", "room"]) (f := f_need_begin_room) G.t_need_begin_room sc_need_begin_room (by decide) fun a cdv A outer s H E hr gu => ?_
  have nd := sc_need_begin_room.nd
  refine dss_cons ?_ ?_
  · refine ds_if ?_ ?_ ?_
    · refine dt_not ?_
      · refine dt_val ?_
        · refine ce_call (ok_is_among G) hr gu (takes_of rfl rfl rfl rfl) ?_ (len_cons (len_cons (len_cons len_nil)))
          · refine da_cons ?_ ?_
            · exact de_var 1
            · refine da_cons ?_ ?_
              · exact de_int
              · refine da_cons ?_ ?_
                · refine de_sub ?_ ?_
                  · refine de_ix ?_ ?_
                    · exact db_var 0
                    · exact de_int
                  · exact de_int
                · exact da_nil
    · refine dss_one ?_
      refine ds_raiseA 2 rfl G.x_2 (.inr (.inl rfl)) G.nb_super hr G.xg_2 (takes_of rfl rfl rfl rfl) rfl ?_
      · exact de_var 1
    · exact dss_nil
  · refine dss_one ?_
    refine ds_ret ?_
    · refine dv_de ?_
      · exact de_var 1
/-! is_aim: 0 piece, 1 thing, 2 things, 3 one, 4 other -/
noncomputable def f_is_aim : Fs := (fSeq (fSet 2 (fSD (fBin oAdd (fIx (fAt 0) (fC (.int 0))) (fIx (fAt 0) (fC (.int 4)))))) (fSeq (fIfS (fOr (fNot (fTb (fFz (fCallD φ_is_tuple_of (fCons (fVar 1) (fCons (fC (.int 0)) (fCons (fVar 2) fNil))))))) (fNot (fTb (fBuB (·.all id) (fVal (fFr (fLc [3] (fItT (fVar 1)) (bName 3) fYes (fFz (fCallD φ_is_among (fCons (fVar 3) (fCons (fC (.int 0)) (fCons (fBin oSub (fVar 2) (fC (.int 1))) fNil)))))))))))) (fRet (fSD (fC (.bl false)))) fPass) (fRet (fSD (fBuB (·.all id) (fVal (fFr (fLc [3, 4] (fZp (fVar 1) (fCutT (fAt 1) (fSo (fC (.int 1))) fNo)) (bTup 2 (bsCons (bName 3) (bsCons (bName 4) bsNil))) fYes (fBl (fLook2 oLt (fAt 3) (fAt 4)))))))))))
noncomputable def φ_is_aim : List D → Rd := runD 5 f_is_aim
theorem sc_is_aim : FnScope (["piece", "thing", "things", "one", "other"] : List Str) (["piece", "thing"] : List Str) (defScope s_is_aim) := ⟨rfl, rfl, rfl, by decide +kernel, rfl, by decide +kernel, by decide +kernel⟩
theorem ok_is_aim (G : Txt P K mg c0 c1 c2) : FnAt P w K mg base "is_aim" 4 (["piece", "thing"] : List Str) (spD K mg (tab c0 c1 c2) φ_is_aim 2) := by
  refine atD (N := ["piece", "thing", "things", "one", "other"]) (f := f_is_aim) G.t_is_aim sc_is_aim (by decide) fun a cdv A outer s H E hr gu => ?_
  have nd := sc_is_aim.nd
  refine dss_cons ?_ ?_
  · refine ds_set 2 nd ?_
    · refine dv_de ?_
      · refine de_add ?_ ?_
        · refine de_ix ?_ ?_
          · exact db_var 0
          · exact de_int
        · refine de_ix ?_ ?_
          · exact db_var 0
          · exact de_int
  · refine dss_cons ?_ ?_
    · refine ds_if ?_ ?_ ?_
      · refine dt_w ?_
        refine dw_or ?_ ?_
        · refine dt_not ?_
          · refine dt_val ?_
            · refine ce_call (ok_is_tuple_of G) hr gu (takes_of rfl rfl rfl rfl) ?_ (len_cons (len_cons (len_cons len_nil)))
              · refine da_cons ?_ ?_
                · exact de_var 1
                · refine da_cons ?_ ?_
                  · exact de_int
                  · refine da_cons ?_ ?_
                    · exact de_var 2
                    · exact da_nil
        · refine dw_or1 ?_
          refine dt_not ?_
          · refine dt_val ?_
            · refine de_all rfl rfl G.nb_all ?_
              · refine db_of ?_
                · refine de_frz ?_
                  · refine dn_lc (own' := [("one", 3)]) rfl nd ?_ (blkOk_by rfl) ?_ ?_ ?_
                    · refine di_tup ?_
                      · exact de_var 1
                    · intro _ _ _ _ _
                      exact dg_name 3 nd
                    · intro _ _ _ _ _
                      exact dts_nil
                    · intro _ _ _ _ _
                      refine ce_call (ok_is_among G) hr gu takes_none5 ?_ (len_cons (len_cons (len_cons len_nil)))
                      · refine da_cons ?_ ?_
                        · exact de_var 3
                        · refine da_cons ?_ ?_
                          · exact de_int
                          · refine da_cons ?_ ?_
                            · refine de_sub ?_ ?_
                              · exact de_var 2
                              · exact de_int
                            · exact da_nil
      · refine dss_one ?_
        refine ds_ret ?_
        · refine dv_de ?_
          · exact de_bl
      · exact dss_nil
    · refine dss_one ?_
      refine ds_ret ?_
      · refine dv_de ?_
        · refine de_all rfl rfl G.nb_all ?_
          · refine db_of ?_
            · refine de_frz ?_
              · refine dn_lc (own' := [("one", 3), ("other", 4)]) rfl nd ?_ (blkOk_by rfl) ?_ ?_ ?_
                · refine di_zip rfl G.nb_zip ?_ ?_
                  · exact de_var 1
                  · refine de_cutT ?_ ?_ ?_
                    · exact db_var 1
                    · refine do_some ?_
                      · exact de_int
                    · exact do_none
                · intro _ _ _ _ _
                  refine dg_tup rfl ?_
                  · refine dgs_cons (vs := [3]) (ws := [4]) ?_ ?_
                    · exact dg_name 3 nd
                    · refine dgs_cons (vs := [4]) (ws := []) ?_ ?_
                      · exact dg_name 4 nd
                      · exact dgs_nil
                · intro _ _ _ _ _
                  exact dts_nil
                · intro _ _ _ _ _
                  refine de_lt ?_ ?_
                  · exact db_var 3
                  · exact db_var 4
/-! need_right_aim: 0 piece, 1 aim, 2 word -/
noncomputable def f_need_right_aim : Fs := (fSeq (fIfS (fNot (fTb (fFz (fCallD φ_is_aim (fCons (fVar 0) (fCons (fVar 1) fNil)))))) (fRaise 1 (fVar 2)) fPass) (fRet (fSD (fVar 1))))
noncomputable def φ_need_right_aim : List D → Rd := runD 3 f_need_right_aim
theorem sc_need_right_aim : FnScope (["piece", "aim", "word"] : List Str) (["piece", "aim", "word"] : List Str) (defScope s_need_right_aim) := ⟨rfl, rfl, rfl, by decide +kernel, rfl, by decide +kernel, by decide +kernel⟩
theorem ok_need_right_aim (G : Txt P K mg c0 c1 c2) : FnAt P w K mg base "need_right_aim" 5 (["piece", "aim", "word"] : List Str) (spD K mg (tab c0 c1 c2) φ_need_right_aim 3) := by
  refine atD (N := ["piece", "aim", "word"]) (f := f_need_right_aim) G.t_need_right_aim sc_need_right_aim (by decide) fun a cdv A outer s H E hr gu => ?_
  have nd := sc_need_right_aim.nd
  refine dss_cons ?_ ?_
  · refine ds_if ?_ ?_ ?_
    · refine dt_not ?_
      · refine dt_val ?_
        · refine ce_call (ok_is_aim G) hr gu (takes_of rfl rfl rfl rfl) ?_ (len_cons (len_cons len_nil))
          · refine da_cons ?_ ?_
            · exact de_var 0
            · refine da_cons ?_ ?_
              · exact de_var 1
              · exact da_nil
    · refine dss_one ?_
      refine ds_raiseA 1 rfl G.x_1 (.inl rfl) G.nb_super hr G.xg_1 (takes_of rfl rfl rfl rfl) rfl ?_
      · exact de_var 2
    · exact dss_nil
  · refine dss_one ?_
    refine ds_ret ?_
    · refine dv_de ?_
      · exact de_var 1
/-! need_aim: 0 piece, 1 aim -/
noncomputable def f_need_aim : Fs := (fRet (fSD (fFz (fCallD φ_need_right_aim (fCons (fFz (fCallD φ_need_piece (fCons (fVar 0) fNil))) (fCons (fVar 1) (fCons (fC (.str "aim")) fNil)))))))
noncomputable def φ_need_aim : List D → Rd := runD 2 f_need_aim
theorem sc_need_aim : FnScope (["piece", "aim"] : List Str) (["piece", "aim"] : List Str) (defScope s_need_aim) := ⟨rfl, rfl, rfl, by decide +kernel, rfl, by decide +kernel, by decide +kernel⟩
theorem ok_need_aim (G : Txt P K mg c0 c1 c2) : FnAt P w K mg base "need_aim" 7 (["piece", "aim"] : List Str) (spD K mg (tab c0 c1 c2) φ_need_aim 2) := by
  refine atD (N := ["piece", "aim"]) (f := f_need_aim) G.t_need_aim sc_need_aim (by decide) fun a cdv A outer s H E hr gu => ?_
  have nd := sc_need_aim.nd
  refine dss_one ?_
  refine ds_ret ?_
  · refine dv_de ?_
    · refine ce_call (ok_need_right_aim G) hr gu (takes_of rfl rfl rfl rfl) ?_ (len_cons (len_cons (len_cons len_nil)))
      · refine da_cons ?_ ?_
        · refine ce_call (ok_need_piece G) hr gu (takes_of rfl rfl rfl rfl) ?_ (len_cons len_nil)
          · refine da_cons ?_ ?_
            · exact de_var 0
            · exact da_nil
        · refine da_cons ?_ ?_
          · exact de_var 1
          · refine da_cons ?_ ?_
            · exact de_str
            · exact da_nil
/-! moves_by: 0 piece, 1 rows, 2 room, 3 start, 4 sign, 5 end, 6 chance -/
noncomputable def f_moves_by : Fs := (fSeq (fSet 1 (fLm [2] (fRg1 (fIx (fAt 0) (fC (.int 0)))) (bName 2) fYes (fRep (fVal (fFr (fLst (fCons (fC (.tup [.int 0, .int 1])) fNil)))) (fBin oAdd (fIx (fAt 0) (fC (.int 0))) (fIx (fAt 0) (fC (.int 4))))))) (fSeq (fFor [0, 2, 3, 4, 5, 6] (fItT (fIx (fAt 0) (fC (.int 2)))) (bTup 4 (bsCons (bName 3) (bsCons (bName 4) (bsCons (bName 5) (bsCons (bName 6) bsNil))))) (fAsg (fFz (fCallD φ_plus_by (fCons (fIxM 1 (fVar 3) 5) (fCons (fVar 6) fNil)))) (bSubM 1 (fVar 3) 5))) (fRet (fSD (fVar 1)))))
noncomputable def φ_moves_by : List D → Rd := runD 7 f_moves_by
theorem sc_moves_by : FnScope (["piece", "rows", "room", "start", "sign", "end", "chance"] : List Str) (["piece"] : List Str) (defScope s_moves_by) := ⟨rfl, rfl, rfl, by decide +kernel, rfl, by decide +kernel, by decide +kernel⟩
theorem ok_moves_by (G : Txt P K mg c0 c1 c2) : FnAt P w K mg base "moves_by" 5 (["piece"] : List Str) (spD K mg (tab c0 c1 c2) φ_moves_by 1) := by
  refine atD (N := ["piece", "rows", "room", "start", "sign", "end", "chance"]) (f := f_moves_by) G.t_moves_by sc_moves_by (by decide) fun a cdv A outer s H E hr gu => ?_
  have nd := sc_moves_by.nd
  refine dss_cons ?_ ?_
  · refine ds_setLm 1 (own' := [("room", 2)]) rfl nd ?_ (blkOk_by rfl) ?_ ?_ ?_
    · refine di_range1 rfl G.nb_range ?_
      · refine de_ix ?_ ?_
        · exact db_var 0
        · exact de_int
    · intro _ _ _ _ _
      exact dg_name 2 nd
    · intro _ _ _ _ _
      exact dts_nil
    · intro _ _ _ _ _
      refine dn_rep ?_ ?_
      · refine db_of ?_
        · refine de_frz ?_
          · refine dn_lst ?_
            · refine da_cons ?_ ?_
              · exact de_gl G.g_ZERO
              · exact da_nil
      · refine de_add ?_ ?_
        · refine de_ix ?_ ?_
          · exact db_var 0
          · exact de_int
        · refine de_ix ?_ ?_
          · exact db_var 0
          · exact de_int
  · refine dss_cons ?_ ?_
    · refine ds_for [0, 2, 3, 4, 5, 6] (ws := [3, 4, 5, 6]) (passes_of rfl) rfl ?_ ?_ ?_
      · refine di_tup ?_
        · refine de_ix ?_ ?_
          · exact db_var 0
          · exact de_int
      · refine dg_tup rfl ?_
        · refine dgs_cons (vs := [3]) (ws := [4, 5, 6]) ?_ ?_
          · exact dg_name 3 nd
          · refine dgs_cons (vs := [4]) (ws := [5, 6]) ?_ ?_
            · exact dg_name 4 nd
            · refine dgs_cons (vs := [5]) (ws := [6]) ?_ ?_
              · exact dg_name 5 nd
              · refine dgs_cons (vs := [6]) (ws := []) ?_ ?_
                · exact dg_name 6 nd
                · exact dgs_nil
      · refine dss_one ?_
        refine ds_asg (vs := []) ?_ ?_
        · refine ce_call (ok_plus_by G) hr gu (takes_of rfl rfl rfl rfl) ?_ (len_cons (len_cons len_nil))
          · refine da_cons ?_ ?_
            · refine de_ixM 1 5 ?_
              · exact de_var 3
            · refine da_cons ?_ ?_
              · exact de_var 6
              · exact da_nil
        · refine dg_subM 1 5 ?_
          · exact de_var 3
    · refine dss_one ?_
      refine ds_ret ?_
      · refine dv_de ?_
        · exact de_var 1
/-! leading_to: 0 rows, 1 aim, 2 gone, 3 found, 4 is_more, 5 room, 6 row, 7 end, 8 chance -/
noncomputable def f_leading_to : Fs := (fSeq (fParG [3, 4] (fsCons (fSL (fLst fNil)) (fsCons (fSD (fC (.bl true))) fsNil))) (fSeq (fWh [5, 6, 7, 8] (fTb (fVar 4)) (fSeq (fSet 4 (fSD (fC (.bl false)))) (fFor [5, 6, 7, 8] (fEnL (fVar 0)) (bTup 2 (bsCons (bName 5) (bsCons (bName 6) bsNil))) (fIfS (fAnd (fLook2 oNin (fAt 5) (fAt 3)) (fAnd (fLook2 oNin (fAt 5) (fAt 1)) (fLook2 oNin (fAt 5) (fAt 2)))) (fIfS (fTb (fBuB (·.any id) (fVal (fFr (fLc [7, 8] (fEnL (fVar 6)) (bTup 2 (bsCons (bName 7) (bsCons (bName 8) bsNil))) fYes (fAndV (fBl (fLook2 oNe (fVal (fIx (fAt 8) (fC (.int 0)))) (fVal (fC (.int 0))))) (fOrV (fBl (fLook2 oIn (fAt 7) (fAt 1))) (fBl (fLook2 oIn (fAt 7) (fAt 3)))))))))) (fSeq (fApp 3 (fVar 5)) (fSet 4 (fSD (fC (.bl true))))) fPass) fPass)))) (fRet (fSD (fFr (fSort (fAt 3)))))))
noncomputable def φ_leading_to : List D → Rd := runD 9 f_leading_to
theorem sc_leading_to : FnScope (["rows", "aim", "gone", "found", "is_more", "room", "row", "end", "chance"] : List Str) (["rows", "aim", "gone"] : List Str) (defScope s_leading_to) := ⟨rfl, rfl, rfl, by decide +kernel, rfl, by decide +kernel, by decide +kernel⟩
theorem ok_leading_to (G : Txt P K mg c0 c1 c2) : FnAt P w K mg base "leading_to" 2 (["rows", "aim", "gone"] : List Str) (spD K mg (tab c0 c1 c2) φ_leading_to 3) := by
  refine atD (N := ["rows", "aim", "gone", "found", "is_more", "room", "row", "end", "chance"]) (f := f_leading_to) G.t_leading_to sc_leading_to (by decide) fun a cdv A outer s H E hr gu => ?_
  have nd := sc_leading_to.nd
  refine dss_cons ?_ ?_
  · refine ds_parG (is := [3, 4]) rfl (dnm_cons 3 nd (dnm_cons 4 nd dnm_nil)) ?_
    · refine dvs_cons ?_ ?_
      · refine dv_dn ?_
        · refine dn_lst ?_
          · exact da_nil
      · refine dvs_cons ?_ ?_
        · refine dv_de ?_
          · exact de_bl
        · exact dvs_nil
  · refine dss_cons ?_ ?_
    · refine ds_while [5, 6, 7, 8] (passes_of rfl) ?_ ?_
      · refine dt_val ?_
        · exact de_var 4
      · refine dss_cons ?_ ?_
        · refine ds_set 4 nd ?_
          · refine dv_de ?_
            · exact de_bl
        · refine dss_one ?_
          refine ds_for [5, 6, 7, 8] (ws := [5, 6]) (passes_of rfl) rfl ?_ ?_ ?_
          · refine di_enL rfl G.nb_enumerate ?_
            · exact de_var 0
          · refine dg_tup rfl ?_
            · refine dgs_cons (vs := [5]) (ws := [6]) ?_ ?_
              · exact dg_name 5 nd
              · refine dgs_cons (vs := [6]) (ws := []) ?_ ?_
                · exact dg_name 6 nd
                · exact dgs_nil
          · refine dss_one ?_
            refine ds_if ?_ ?_ ?_
            · refine dt_w ?_
              refine dw_and ?_ ?_
              · refine dt_nin hr.u65 ?_ ?_
                · exact db_var 5
                · exact db_var 3
              · refine dw_and ?_ ?_
                · refine dt_nin hr.u65 ?_ ?_
                  · exact db_var 5
                  · exact db_var 1
                · refine dw_and1 ?_
                  refine dt_nin hr.u65 ?_ ?_
                  · exact db_var 5
                  · exact db_var 2
            · refine dss_one ?_
              refine ds_if ?_ ?_ ?_
              · refine dt_val ?_
                · refine de_any rfl rfl G.nb_any ?_
                  · refine db_of ?_
                    · refine de_frz ?_
                      · refine dn_lc (own' := [("end", 7), ("chance", 8)]) rfl nd ?_ (blkOk_by rfl) ?_ ?_ ?_
                        · refine di_enL rfl G.nb_enumerate ?_
                          · exact de_var 6
                        · intro _ _ _ _ _
                          refine dg_tup rfl ?_
                          · refine dgs_cons (vs := [7]) (ws := [8]) ?_ ?_
                            · exact dg_name 7 nd
                            · refine dgs_cons (vs := [8]) (ws := []) ?_ ?_
                              · exact dg_name 8 nd
                              · exact dgs_nil
                        · intro _ _ _ _ _
                          exact dts_nil
                        · intro _ _ _ _ _
                          refine de_and ?_ ?_
                          · refine de_ne hr.units ?_ ?_
                            · refine db_of ?_
                              · refine de_ix ?_ ?_
                                · exact db_var 8
                                · exact de_int
                            · refine db_of ?_
                              · exact de_int
                          · refine de_one ?_
                            refine de_or ?_ ?_
                            · refine de_in hr.u65 ?_ ?_
                              · exact db_var 7
                              · exact db_var 1
                            · refine de_one ?_
                              refine de_in hr.u65 ?_ ?_
                              · exact db_var 7
                              · exact db_var 3
              · refine dss_cons ?_ ?_
                · refine ds_append 3 ?_
                  · exact de_var 5
                · refine dss_one ?_
                  refine ds_set 4 nd ?_
                  · refine dv_de ?_
                    · exact de_bl
              · exact dss_nil
            · exact dss_nil
    · refine dss_one ?_
      refine ds_ret ?_
      · refine dv_de ?_
        · refine de_frz ?_
          · refine dn_sorted rfl G.nb_sorted ?_
            · exact db_var 3
/-! arrivals_by: 0 rows, 1 aim, 2 gone, 3 rooms, 4 matrix, 5 columns, 6 here, 7 there, 8 end, 9 found, 10 room, 11 answer -/
noncomputable def f_arrivals_by : Fs := (fSeq (fSet 3 (fSD (fFz (fCallD φ_leading_to (fCons (fVar 0) (fCons (fVar 1) (fCons (fVar 2) fNil))))))) (fSeq (fPar2 4 5 (fsCons (fSL (fLst fNil)) (fsCons (fSL (fLst fNil)) fsNil))) (fSeq (fFor [2, 6, 7, 8, 9, 10, 11] (fItL (fVar 3)) (bName 6) (fSeq (fApp 4 (fFr (fLc [7] (fItL (fVar 3)) (bName 7) fYes (fFz (fCallD φ_minus_by (fCons (fIf (fLook2 oEq (fAt 6) (fAt 7)) (fC (.tup [.int 1, .int 1])) (fC (.tup [.int 0, .int 1]))) (fCons (fIx (fVal (fIx (fAt 0) (fVar 6))) (fVar 7)) fNil))))))) (fApp 5 (fFr (fLst (fCons (fFz (fCallD φ_sum_by (fCons (fFr (fLc [8] (fItT (fVar 1)) (bName 8) fYes (fIx (fVal (fIx (fAt 0) (fVar 6))) (fVar 8)))) fNil))) fNil)))))) (fSeq (fSet 9 (fSL (fLc [10] (fRg1 (fLen (fAt 0))) (bName 10) fYes (fIf (fLook2 oIn (fAt 10) (fAt 1)) (fC (.tup [.int 1, .int 1])) (fC (.tup [.int 0, .int 1])))))) (fSeq (fFor [0, 1, 2, 3, 4, 5, 6, 7, 8, 10, 11] (fZp (fVar 3) (fFz (fCallD φ_solved_shares (fCons (fVar 4) (fCons (fVar 5) fNil))))) (bTup 2 (bsCons (bName 10) (bsCons (bName 11) bsNil))) (fAsg (fIx (fAt 11) (fC (.int 0))) (bSub 9 (fVar 10)))) (fRet (fSD (fVar 9))))))))
noncomputable def φ_arrivals_by : List D → Rd := runD 12 f_arrivals_by
theorem sc_arrivals_by : FnScope (["rows", "aim", "gone", "rooms", "matrix", "columns", "here", "there", "end", "found", "room", "answer"] : List Str) (["rows", "aim", "gone"] : List Str) (defScope s_arrivals_by) := ⟨rfl, rfl, rfl, by decide +kernel, rfl, by decide +kernel, by decide +kernel⟩
theorem ok_arrivals_by (G : Txt P K mg c0 c1 c2) : FnAt P w K mg base "arrivals_by" 6 (["rows", "aim", "gone"] : List Str) (spD K mg (tab c0 c1 c2) φ_arrivals_by 3) := by
  refine atD (N := ["rows", "aim", "gone", "rooms", "matrix", "columns", "here", "there", "end", "found", "room", "answer"]) (f := f_arrivals_by) G.t_arrivals_by sc_arrivals_by (by decide) fun a cdv A outer s H E hr gu => ?_
  have nd := sc_arrivals_by.nd
  refine dss_cons ?_ ?_
  · refine ds_set 3 nd ?_
    · refine dv_de ?_
      · refine ce_call (ok_leading_to G) hr gu (takes_of rfl rfl rfl rfl) ?_ (len_cons (len_cons (len_cons len_nil)))
        · refine da_cons ?_ ?_
          · exact de_var 0
          · refine da_cons ?_ ?_
            · exact de_var 1
            · refine da_cons ?_ ?_
              · exact de_var 2
              · exact da_nil
  · refine dss_cons ?_ ?_
    · refine ds_par2 4 5 rfl nd ?_
      · refine dvs_cons ?_ ?_
        · refine dv_dn ?_
          · refine dn_lst ?_
            · exact da_nil
        · refine dvs_cons ?_ ?_
          · refine dv_dn ?_
            · refine dn_lst ?_
              · exact da_nil
          · exact dvs_nil
    · refine dss_cons ?_ ?_
      · refine ds_for [2, 6, 7, 8, 9, 10, 11] (ws := [6]) (passes_of rfl) rfl ?_ ?_ ?_
        · refine di_list ?_
          · exact de_var 3
        · exact dg_name 6 nd
        · refine dss_cons ?_ ?_
          · refine ds_append 4 ?_
            · refine de_frz ?_
              · refine dn_lc (own' := [("there", 7)]) rfl nd ?_ (blkOk_by rfl) ?_ ?_ ?_
                · refine di_list ?_
                  · exact de_var 3
                · intro _ _ _ _ _
                  exact dg_name 7 nd
                · intro _ _ _ _ _
                  exact dts_nil
                · intro _ _ _ _ _
                  refine ce_call (ok_minus_by G) hr gu takes_none5 ?_ (len_cons (len_cons len_nil))
                  · refine da_cons ?_ ?_
                    · refine de_if ?_ ?_ ?_
                      · refine dt_eq hr.units ?_ ?_
                        · exact db_var 6
                        · exact db_var 7
                      · exact de_gl G.g_ONE
                      · exact de_gl G.g_ZERO
                    · refine da_cons ?_ ?_
                      · refine de_ix ?_ ?_
                        · refine db_of ?_
                          · refine de_ix ?_ ?_
                            · exact db_var 0
                            · exact de_var 6
                        · exact de_var 7
                      · exact da_nil
          · refine dss_one ?_
            refine ds_append 5 ?_
            · refine de_frz ?_
              · refine dn_lst ?_
                · refine da_cons ?_ ?_
                  · refine ce_call (ok_sum_by G) hr gu (takes_of rfl rfl rfl rfl) ?_ (len_cons len_nil)
                    · refine da_cons ?_ ?_
                      · refine de_frz ?_
                        · refine dn_lc (own' := [("end", 8)]) rfl nd ?_ (blkOk_by rfl) ?_ ?_ ?_
                          · refine di_tup ?_
                            · exact de_var 1
                          · intro _ _ _ _ _
                            exact dg_name 8 nd
                          · intro _ _ _ _ _
                            exact dts_nil
                          · intro _ _ _ _ _
                            refine de_ix ?_ ?_
                            · refine db_of ?_
                              · refine de_ix ?_ ?_
                                · exact db_var 0
                                · exact de_var 6
                            · exact de_var 8
                      · exact da_nil
                  · exact da_nil
      · refine dss_cons ?_ ?_
        · refine ds_setLc 9 (own' := [("room", 10)]) imp_own rfl nd ?_ (blkOk_by rfl) ?_ ?_ ?_
          · refine di_range1 rfl G.nb_range ?_
            · refine de_len rfl G.nb_len ?_
              · exact db_var 0
          · intro _ _ _ _ _
            exact dg_name 10 nd
          · intro _ _ _ _ _
            exact dts_nil
          · intro _ _ _ _ _
            refine de_if ?_ ?_ ?_
            · refine dt_in hr.u65 ?_ ?_
              · exact db_var 10
              · exact db_var 1
            · exact de_gl G.g_ONE
            · exact de_gl G.g_ZERO
        · refine dss_cons ?_ ?_
          · refine ds_for [0, 1, 2, 3, 4, 5, 6, 7, 8, 10, 11] (ws := [10, 11]) (passes_of rfl) rfl ?_ ?_ ?_
            · refine di_zip rfl G.nb_zip ?_ ?_
              · exact de_var 3
              · refine ce_call (ok_solved_shares G) hr gu (takes_of rfl rfl rfl rfl) ?_ (len_cons (len_cons len_nil))
                · refine da_cons ?_ ?_
                  · exact de_var 4
                  · refine da_cons ?_ ?_
                    · exact de_var 5
                    · exact da_nil
            · refine dg_tup rfl ?_
              · refine dgs_cons (vs := [10]) (ws := [11]) ?_ ?_
                · exact dg_name 10 nd
                · refine dgs_cons (vs := [11]) (ws := []) ?_ ?_
                  · exact dg_name 11 nd
                  · exact dgs_nil
            · refine dss_one ?_
              refine ds_asg (vs := []) ?_ ?_
              · refine de_ix ?_ ?_
                · exact db_var 11
                · exact de_int
              · refine dg_sub 9 ?_
                · exact de_var 10
          · refine dss_one ?_
            refine ds_ret ?_
            · refine dv_de ?_
              · exact de_var 9
/-! arrivals_of: 0 piece, 1 aim -/
noncomputable def f_arrivals_of : Fs := (fSeq (fExpr (fFz (fCallD φ_need_aim (fCons (fVar 0) (fCons (fVar 1) fNil))))) (fRet (fSD (fTuple (fVal (fFz (fCallD φ_arrivals_by (fCons (fFz (fCallD φ_moves_by (fCons (fVar 0) fNil))) (fCons (fVar 1) (fCons (fTup fNil) fNil))))))))))
noncomputable def φ_arrivals_of : List D → Rd := runD 2 f_arrivals_of
theorem sc_arrivals_of : FnScope (["piece", "aim"] : List Str) (["piece", "aim"] : List Str) (defScope s_arrivals_of) := ⟨rfl, rfl, rfl, by decide +kernel, rfl, by decide +kernel, by decide +kernel⟩
theorem ok_arrivals_of (G : Txt P K mg c0 c1 c2) : FnAt P w K mg base "arrivals_of" 8 (["piece", "aim"] : List Str) (spD K mg (tab c0 c1 c2) φ_arrivals_of 2) := by
  refine atD (N := ["piece", "aim"]) (f := f_arrivals_of) G.t_arrivals_of sc_arrivals_of (by decide) fun a cdv A outer s H E hr gu => ?_
  have nd := sc_arrivals_of.nd
  refine dss_cons ?_ ?_
  · refine ds_expr ?_
    · refine ce_call (ok_need_aim G) hr gu (takes_of rfl rfl rfl rfl) ?_ (len_cons (len_cons len_nil))
      · refine da_cons ?_ ?_
        · exact de_var 0
        · refine da_cons ?_ ?_
          · exact de_var 1
          · exact da_nil
  · refine dss_one ?_
    refine ds_ret ?_
    · refine dv_de ?_
      · refine de_tuple rfl G.nb_tuple ?_
        · refine db_of ?_
          · refine ce_call (ok_arrivals_by G) hr gu (takes_of rfl rfl rfl rfl) ?_ (len_cons (len_cons (len_cons len_nil)))
            · refine da_cons ?_ ?_
              · refine ce_call (ok_moves_by G) hr gu (takes_of rfl rfl rfl rfl) ?_ (len_cons len_nil)
                · refine da_cons ?_ ?_
                  · exact de_var 0
                  · exact da_nil
              · refine da_cons ?_ ?_
                · exact de_var 1
                · refine da_cons ?_ ?_
                  · refine de_tup ?_
                    · exact da_nil
                  · exact da_nil
/-! chances_behind: 0 piece, 1 room, 2 many, 3 rows, 4 here, 5 there, 6 turn, 7 later, 8 chance, 9 row, 10 one, 11 more -/
noncomputable def f_chances_behind : Fs := (fSeq (fExpr (fFz (fCallD φ_need_begin_room (fCons (fFz (fCallD φ_need_piece (fCons (fVar 0) fNil))) (fCons (fVar 1) fNil))))) (fSeq (fIfS (fNot (fTb (fFz (fCallD φ_is_among (fCons (fVar 2) (fCons (fC (.int 0)) (fCons (fC (.int 200)) fNil))))))) (fRaise 2 (fVar 2)) fPass) (fSeq (fSet 3 (fSD (fFz (fCallD φ_moves_by (fCons (fVar 0) fNil))))) (fSeq (fSet 4 (fSD (fFr (fLc [5] (fRg1 (fBin oAdd (fIx (fAt 0) (fC (.int 0))) (fIx (fAt 0) (fC (.int 4))))) (bName 5) fYes (fIf (fLook2 oEq (fAt 5) (fAt 1)) (fC (.tup [.int 1, .int 1])) (fC (.tup [.int 0, .int 1]))))))) (fSeq (fFor [1, 2, 5, 6, 7, 8, 9, 10, 11] (fRg1 (fVar 2)) (bName 6) (fSeq (fSet 7 (fSD (fFr (fCat (fVal (fFr (fRep (fVal (fFr (fLst (fCons (fC (.tup [.int 0, .int 1])) fNil)))) (fIx (fAt 0) (fC (.int 0)))))) (fVal (fFr (fCut (fAt 4) (fSo (fIx (fAt 0) (fC (.int 0)))) fNo))))))) (fSeq (fFor [1, 2, 4, 5, 6, 8, 9, 10, 11] (fZp (fFr (fCut (fAt 4) fNo (fSo (fIx (fAt 0) (fC (.int 0)))))) (fVar 3)) (bTup 2 (bsCons (bName 8) (bsCons (bName 9) bsNil))) (fIfS (fLook2 oNe (fVal (fIx (fAt 8) (fC (.int 0)))) (fVal (fC (.int 0)))) (fSet 7 (fSD (fFr (fLc [10, 11] (fZp (fVar 7) (fVar 9)) (bTup 2 (bsCons (bName 10) (bsCons (bName 11) bsNil))) fYes (fFz (fCallD φ_plus_by (fCons (fVar 10) (fCons (fFz (fCallD φ_product_sum_by (fCons (fFr (fLst (fCons (fVar 8) fNil))) (fCons (fFr (fLst (fCons (fVar 11) fNil))) fNil)))) fNil)))))))) fPass)) (fSet 4 (fSD (fVar 7)))))) (fRet (fSD (fTuple (fAt 4)))))))))
noncomputable def φ_chances_behind : List D → Rd := runD 12 f_chances_behind
theorem sc_chances_behind : FnScope (["piece", "room", "many", "rows", "here", "there", "turn", "later", "chance", "row", "one", "more"] : List Str) (["piece", "room", "many"] : List Str) (defScope s_chances_behind) := ⟨rfl, rfl, rfl, by decide +kernel, rfl, by decide +kernel, by decide +kernel⟩
theorem ok_chances_behind (G : Txt P K mg c0 c1 c2) : FnAt P w K mg base "chances_behind" 7 (["piece", "room", "many"] : List Str) (spD K mg (tab c0 c1 c2) φ_chances_behind 3) := by
  refine atD (N := ["piece", "room", "many", "rows", "here", "there", "turn", "later", "chance", "row", "one", "more"]) (f := f_chances_behind) G.t_chances_behind sc_chances_behind (by decide) fun a cdv A outer s H E hr gu => ?_
  have nd := sc_chances_behind.nd
  refine dss_cons ?_ ?_
  · refine ds_expr ?_
    · refine ce_call (ok_need_begin_room G) hr gu (takes_of rfl rfl rfl rfl) ?_ (len_cons (len_cons len_nil))
      · refine da_cons ?_ ?_
        · refine ce_call (ok_need_piece G) hr gu (takes_of rfl rfl rfl rfl) ?_ (len_cons len_nil)
          · refine da_cons ?_ ?_
            · exact de_var 0
            · exact da_nil
        · refine da_cons ?_ ?_
          · exact de_var 1
          · exact da_nil
  · refine dss_cons ?_ ?_
    · refine ds_if ?_ ?_ ?_
      · refine dt_not ?_
        · refine dt_val ?_
          · refine ce_call (ok_is_among G) hr gu (takes_of rfl rfl rfl rfl) ?_ (len_cons (len_cons (len_cons len_nil)))
            · refine da_cons ?_ ?_
              · exact de_var 2
              · refine da_cons ?_ ?_
                · exact de_int
                · refine da_cons ?_ ?_
                  · exact de_gl G.g_MOST_BEHIND
                  · exact da_nil
      · refine dss_one ?_
        refine ds_raiseA 2 rfl G.x_2 (.inr (.inl rfl)) G.nb_super hr G.xg_2 (takes_of rfl rfl rfl rfl) rfl ?_
        · exact de_var 2
      · exact dss_nil
    · refine dss_cons ?_ ?_
      · refine ds_set 3 nd ?_
        · refine dv_de ?_
          · refine ce_call (ok_moves_by G) hr gu (takes_of rfl rfl rfl rfl) ?_ (len_cons len_nil)
            · refine da_cons ?_ ?_
              · exact de_var 0
              · exact da_nil
      · refine dss_cons ?_ ?_
        · refine ds_setLc 4 (own' := [("there", 5)]) imp_fz rfl nd ?_ (blkOk_by rfl) ?_ ?_ ?_
          · refine di_range1 rfl G.nb_range ?_
            · refine de_add ?_ ?_
              · refine de_ix ?_ ?_
                · exact db_var 0
                · exact de_int
              · refine de_ix ?_ ?_
                · exact db_var 0
                · exact de_int
          · intro _ _ _ _ _
            exact dg_name 5 nd
          · intro _ _ _ _ _
            exact dts_nil
          · intro _ _ _ _ _
            refine de_if ?_ ?_ ?_
            · refine dt_eq hr.units ?_ ?_
              · exact db_var 5
              · exact db_var 1
            · exact de_gl G.g_ONE
            · exact de_gl G.g_ZERO
        · refine dss_cons ?_ ?_
          · refine ds_for [1, 2, 5, 6, 7, 8, 9, 10, 11] (ws := [6]) (passes_of rfl) rfl ?_ ?_ ?_
            · refine di_range1 rfl G.nb_range ?_
              · exact de_var 2
            · exact dg_name 6 nd
            · refine dss_cons ?_ ?_
              · refine ds_set 7 nd ?_
                · refine dv_de ?_
                  · refine de_frz ?_
                    · refine dn_cat ?_ ?_
                      · refine db_of ?_
                        · refine de_frz ?_
                          · refine dn_rep ?_ ?_
                            · refine db_of ?_
                              · refine de_frz ?_
                                · refine dn_lst ?_
                                  · refine da_cons ?_ ?_
                                    · exact de_gl G.g_ZERO
                                    · exact da_nil
                            · refine de_ix ?_ ?_
                              · exact db_var 0
                              · exact de_int
                      · refine db_of ?_
                        · refine de_frz ?_
                          · refine dn_cut ?_ ?_ ?_
                            · exact db_var 4
                            · refine do_some ?_
                              · refine de_ix ?_ ?_
                                · exact db_var 0
                                · exact de_int
                            · exact do_none
              · refine dss_cons ?_ ?_
                · refine ds_for [1, 2, 4, 5, 6, 8, 9, 10, 11] (ws := [8, 9]) (passes_of rfl) rfl ?_ ?_ ?_
                  · refine di_zip rfl G.nb_zip ?_ ?_
                    · refine de_frz ?_
                      · refine dn_cut ?_ ?_ ?_
                        · exact db_var 4
                        · exact do_none
                        · refine do_some ?_
                          · refine de_ix ?_ ?_
                            · exact db_var 0
                            · exact de_int
                    · exact de_var 3
                  · refine dg_tup rfl ?_
                    · refine dgs_cons (vs := [8]) (ws := [9]) ?_ ?_
                      · exact dg_name 8 nd
                      · refine dgs_cons (vs := [9]) (ws := []) ?_ ?_
                        · exact dg_name 9 nd
                        · exact dgs_nil
                  · refine dss_one ?_
                    refine ds_if ?_ ?_ ?_
                    · refine dt_ne hr.units ?_ ?_
                      · refine db_of ?_
                        · refine de_ix ?_ ?_
                          · exact db_var 8
                          · exact de_int
                      · refine db_of ?_
                        · exact de_int
                    · refine dss_one ?_
                      refine ds_setLc 7 (own' := [("one", 10), ("more", 11)]) imp_fz rfl nd ?_ (blkOk_by rfl) ?_ ?_ ?_
                      · refine di_zip rfl G.nb_zip ?_ ?_
                        · exact de_var 7
                        · exact de_var 9
                      · intro _ _ _ _ _
                        refine dg_tup rfl ?_
                        · refine dgs_cons (vs := [10]) (ws := [11]) ?_ ?_
                          · exact dg_name 10 nd
                          · refine dgs_cons (vs := [11]) (ws := []) ?_ ?_
                            · exact dg_name 11 nd
                            · exact dgs_nil
                      · intro _ _ _ _ _
                        exact dts_nil
                      · intro _ _ _ _ _
                        refine ce_call (ok_plus_by G) hr gu takes_none5 ?_ (len_cons (len_cons len_nil))
                        · refine da_cons ?_ ?_
                          · exact de_var 10
                          · refine da_cons ?_ ?_
                            · refine ce_call (ok_product_sum_by G) hr gu takes_none5 ?_ (len_cons (len_cons len_nil))
                              · refine da_cons ?_ ?_
                                · refine de_frz ?_
                                  · refine dn_lst ?_
                                    · refine da_cons ?_ ?_
                                      · exact de_var 8
                                      · exact da_nil
                                · refine da_cons ?_ ?_
                                  · refine de_frz ?_
                                    · refine dn_lst ?_
                                      · refine da_cons ?_ ?_
                                        · exact de_var 11
                                        · exact da_nil
                                  · exact da_nil
                            · exact da_nil
                    · exact dss_nil
                · refine dss_one ?_
                  refine ds_set 4 nd ?_
                  · refine dv_de ?_
                    · exact de_var 7
          · refine dss_one ?_
            refine ds_ret ?_
            · refine dv_de ?_
              · refine de_tuple rfl G.nb_tuple ?_
                · exact db_var 4
/-! _law_next: 0 m, 1 many, 2 rest, 3 at, 4 cell, 5 blend -/
noncomputable def f__law_next : Fs := (fSeq (fIfS (fDrNe 0 .left) (fSeq (fSet 2 (fSD (fDrIx0 0))) (fSeq (fDrSet0 0 (fBin oDiv (fVar 2) (fVar 1))) (fSeq (fIfS (fLook2 oEq (fVal (fDrIx0 0)) (fVal (fC (.int 0)))) (fDrCut 0) fPass) (fRet (fSD (fBin oMod (fVar 2) (fVar 1))))))) fPass) (fSeq (fSet 3 (fSD (fDrAt 0))) (fSeq (fDrSet 0 (fBin oAdd (fVar 3) (fC (.int 1)))) (fSeq (fSet 4 (fSD (fIf (fDrNe 0 .cells) (fDrMod 0 3) (fC (.int 0))))) (fSeq (fSet 5 (fSD (fBin oMul (fBin oMod (fUn oInt (fVar 4)) (fC (.int 2147483629))) (fBin oAdd (fBin oMul (fC (.int 2)) (fVar 3)) (fC (.int 3)))))) (fSeq (fSet 5 (fSD (fBin oMod (fBin oAdd (fBin oAdd (fBin oAdd (fVar 5) (fBin oMul (fBin oMul (fC (.int 7919)) (fVar 3)) (fVar 3))) (fBin oMul (fC (.int 104729)) (fVar 3))) (fC (.int 31))) (fC (.int 2147483647))))) (fRet (fSD (fBin oMod (fBin oDiv (fBin oMod (fBin oMul (fBin oMod (fBin oMul (fVar 5) (fVar 5)) (fC (.int 2147483629))) (fC (.int 48271))) (fC (.int 2147483647))) (fC (.int 13))) (fVar 1))))))))))
noncomputable def φ__law_next : Addr → Dr → List D → Rm := runM 6 f__law_next
theorem sc__law_next : FnScope (["m", "many", "rest", "at", "cell", "blend"] : List Str) (["m", "many"] : List Str) (defScope s__law_next) := ⟨rfl, rfl, rfl, by decide +kernel, rfl, by decide +kernel, by decide +kernel⟩
theorem ok__law_next (G : Txt P K mg c0 c1 c2) : FnAt P w K mg base "_law_next" 2 (["m", "many"] : List Str) (spM K mg (tab c0 c1 c2) φ__law_next 2) := by
  refine atM (N := ["m", "many", "rest", "at", "cell", "blend"]) (f := f__law_next) G.t__law_next sc__law_next (by decide) fun a cdv A outer s H E hr gu => ?_
  have nd := sc__law_next.nd
  refine dss_cons ?_ ?_
  · refine ds_if ?_ ?_ ?_
    · exact dt_drNe 0 .left hr.units
    · refine dss_cons ?_ ?_
      · refine ds_set 2 nd ?_
        · refine dv_de ?_
          · exact de_drIx0 0 hr.units
      · refine dss_cons ?_ ?_
        · refine ds_drSet0 0 hr.units ?_
          · refine de_div ?_ ?_
            · exact de_var 2
            · exact de_var 1
        · refine dss_cons ?_ ?_
          · refine ds_if ?_ ?_ ?_
            · refine dt_eq hr.units ?_ ?_
              · refine db_of ?_
                · exact de_drIx0 0 hr.units
              · refine db_of ?_
                · exact de_int
            · refine dss_one ?_
              exact ds_drCut 0 hr.units
            · exact dss_nil
          · refine dss_one ?_
            refine ds_ret ?_
            · refine dv_de ?_
              · refine de_mod ?_ ?_
                · exact de_var 2
                · exact de_var 1
    · exact dss_nil
  · refine dss_cons ?_ ?_
    · refine ds_set 3 nd ?_
      · refine dv_de ?_
        · exact de_drAt 0 hr.units
    · refine dss_cons ?_ ?_
      · refine ds_drSet 0 hr.units ?_
        · refine de_add ?_ ?_
          · exact de_var 3
          · exact de_int
      · refine dss_cons ?_ ?_
        · refine ds_set 4 nd ?_
          · refine dv_de ?_
            · refine de_if ?_ ?_ ?_
              · exact dt_drNe 0 .cells hr.units
              · exact de_drMod 0 3 hr.units rfl G.nb_len
              · exact de_int
        · refine dss_cons ?_ ?_
          · refine ds_set 5 nd ?_
            · refine dv_de ?_
              · refine de_mul ?_ ?_
                · refine de_mod ?_ ?_
                  · refine de_toInt rfl G.nb_int ?_
                    · exact de_var 4
                  · exact de_int
                · refine de_add ?_ ?_
                  · refine de_mul ?_ ?_
                    · exact de_int
                    · exact de_var 3
                  · exact de_int
          · refine dss_cons ?_ ?_
            · refine ds_set 5 nd ?_
              · refine dv_de ?_
                · refine de_mod ?_ ?_
                  · refine de_add ?_ ?_
                    · refine de_add ?_ ?_
                      · refine de_add ?_ ?_
                        · exact de_var 5
                        · refine de_mul ?_ ?_
                          · refine de_mul ?_ ?_
                            · exact de_int
                            · exact de_var 3
                          · exact de_var 3
                      · refine de_mul ?_ ?_
                        · exact de_int
                        · exact de_var 3
                    · exact de_int
                  · exact de_int
            · refine dss_one ?_
              refine ds_ret ?_
              · refine dv_de ?_
                · refine de_mod ?_ ?_
                  · refine de_div ?_ ?_
                    · refine de_mod ?_ ?_
                      · refine de_mul ?_ ?_
                        · refine de_mod ?_ ?_
                          · refine de_mul ?_ ?_
                            · exact de_var 5
                            · exact de_var 5
                          · exact de_int
                        · exact de_int
                      · exact de_int
                    · exact de_int
                  · exact de_var 1
/-! _law_of: 0 m, 1 some -/
noncomputable def f__law_of : Fs := (fRet (fSD (fIx (fAt 1) (fFz (fCallM 0 φ__law_next (fCons (fLen (fAt 1)) fNil))))))
noncomputable def φ__law_of : Addr → Dr → List D → Rm := runM 2 f__law_of
theorem sc__law_of : FnScope (["m", "some"] : List Str) (["m", "some"] : List Str) (defScope s__law_of) := ⟨rfl, rfl, rfl, by decide +kernel, rfl, by decide +kernel, by decide +kernel⟩
theorem ok__law_of (G : Txt P K mg c0 c1 c2) : FnAt P w K mg base "_law_of" 3 (["m", "some"] : List Str) (spM K mg (tab c0 c1 c2) φ__law_of 2) := by
  refine atM (N := ["m", "some"]) (f := f__law_of) G.t__law_of sc__law_of (by decide) fun a cdv A outer s H E hr gu => ?_
  have nd := sc__law_of.nd
  refine dss_one ?_
  refine ds_ret ?_
  · refine dv_de ?_
    · refine de_ix ?_ ?_
      · exact db_var 1
      · refine ce_callM 0 (ok__law_next G) hr gu (takes_of rfl rfl rfl rfl) ?_ (len_cons len_nil)
        · refine da_cons ?_ ?_
          · refine de_len rfl G.nb_len ?_
            · exact db_var 1
          · exact da_nil
/-! _law_like: 0 got, 1 due, 2 k -/
noncomputable def f__law_like (φ : List D → Rd) : Fs := (fSeq (fIfS (fTb (fIsi tTuple (fAt 1))) (fRet (fSD (fAndV (fIsi tTuple (fAt 0)) (fAndV (fBl (fLook2 oEq (fVal (fLen (fAt 0))) (fVal (fLen (fAt 1))))) (fBuB (·.all id) (fVal (fFr (fLc [2] (fRg1 (fLen (fAt 1))) (bName 2) fYes (fFz (fCallD φ (fCons (fIx (fAt 0) (fVar 2)) (fCons (fIx (fAt 1) (fVar 2)) fNil)))))))))))) fPass) (fSeq (fIfS (fOr (fLook2 oIs (fAt 1) (fVal (fC .non))) (fTb (fIsi tStr (fAt 1)))) (fRet (fSD (fIf (fLook2 oIs (fAt 1) (fVal (fC .non))) (fBl (fLook2 oIs (fAt 0) (fVal (fC .non)))) (fAndV (fIsi tStr (fAt 0)) (fBl (fLook2 oEq (fAt 0) (fAt 1))))))) fPass) (fRet (fSD (fAndV (fIsi tInt (fAt 0)) (fAndV (fBl (fLook2 oEq (fVal (fIsi tBool (fAt 0))) (fVal (fIsi tBool (fAt 1))))) (fBl (fLook2 oEq (fAt 0) (fAt 1)))))))))
noncomputable def φ__law_like : Nat → List D → Rd
  | 0 => fun _ => .st
  | n + 1 => runD 3 (f__law_like (φ__law_like n))
theorem sc__law_like : FnScope (["got", "due", "k"] : List Str) (["got", "due"] : List Str) (defScope s__law_like) := ⟨rfl, rfl, rfl, by decide +kernel, rfl, by decide +kernel, by decide +kernel⟩
theorem ok__law_like (G : Txt P K mg c0 c1 c2) : ∀ n : Nat, FnAt P w K mg base "_law_like" (1 + n) (["got", "due"] : List Str) (spD K mg (tab c0 c1 c2) (φ__law_like n) 2)
  | 0 => (at0 G.t__law_like sc__law_like).up (by omega)
  | n + 1 => by
    have ih := ok__law_like G n
    refine atD (N := ["got", "due", "k"]) (f := f__law_like (φ__law_like n)) G.t__law_like sc__law_like (by decide) fun a cdv A outer s H E hr gu => ?_
    have nd := sc__law_like.nd
    refine dss_cons ?_ ?_
    · refine ds_if ?_ ?_ ?_
      · refine dt_val ?_
        · refine de_isi (tb := tTuple) (ty := "tuple") rfl G.nb_isinstance rfl G.nb_tuple (by decide +kernel) (by decide) (by decide) tTuple_ok ?_
          · exact db_var 1
      · refine dss_one ?_
        refine ds_ret ?_
        · refine dv_de ?_
          · refine de_and ?_ ?_
            · refine de_isi (tb := tTuple) (ty := "tuple") rfl G.nb_isinstance rfl G.nb_tuple (by decide +kernel) (by decide) (by decide) tTuple_ok ?_
              · exact db_var 0
            · refine de_and ?_ ?_
              · refine de_eq hr.units ?_ ?_
                · refine db_of ?_
                  · refine de_len rfl G.nb_len ?_
                    · exact db_var 0
                · refine db_of ?_
                  · refine de_len rfl G.nb_len ?_
                    · exact db_var 1
              · refine de_one ?_
                refine de_all rfl rfl G.nb_all ?_
                · refine db_of ?_
                  · refine de_frz ?_
                    · refine dn_lc (own' := [("k", 2)]) rfl nd ?_ (blkOk_by rfl) ?_ ?_ ?_
                      · refine di_range1 rfl G.nb_range ?_
                        · refine de_len rfl G.nb_len ?_
                          · exact db_var 1
                      · intro _ _ _ _ _
                        exact dg_name 2 nd
                      · intro _ _ _ _ _
                        exact dts_nil
                      · intro _ _ _ _ _
                        refine ce_call ih hr gu takes_none5 ?_ (len_cons (len_cons len_nil)) (Nat.le_refl _)
                        · refine da_cons ?_ ?_
                          · refine de_ix ?_ ?_
                            · exact db_var 0
                            · exact de_var 2
                          · refine da_cons ?_ ?_
                            · refine de_ix ?_ ?_
                              · exact db_var 1
                              · exact de_var 2
                            · exact da_nil
      · exact dss_nil
    · refine dss_cons ?_ ?_
      · refine ds_if ?_ ?_ ?_
        · refine dt_w ?_
          refine dw_or ?_ ?_
          · refine dt_is ?_ ?_
            · exact db_var 1
            · refine db_of ?_
              · exact de_non
          · refine dw_or1 ?_
            refine dt_val ?_
            · refine de_isi (tb := tStr) (ty := "str") rfl G.nb_isinstance rfl G.nb_str (by decide +kernel) (by decide) (by decide) tStr_ok ?_
              · exact db_var 1
        · refine dss_one ?_
          refine ds_ret ?_
          · refine dv_de ?_
            · refine de_if ?_ ?_ ?_
              · refine dt_is ?_ ?_
                · exact db_var 1
                · refine db_of ?_
                  · exact de_non
              · refine de_is ?_ ?_
                · exact db_var 0
                · refine db_of ?_
                  · exact de_non
              · refine de_and ?_ ?_
                · refine de_isi (tb := tStr) (ty := "str") rfl G.nb_isinstance rfl G.nb_str (by decide +kernel) (by decide) (by decide) tStr_ok ?_
                  · exact db_var 0
                · refine de_one ?_
                  refine de_eq hr.units ?_ ?_
                  · exact db_var 0
                  · exact db_var 1
        · exact dss_nil
      · refine dss_one ?_
        refine ds_ret ?_
        · refine dv_de ?_
          · refine de_and ?_ ?_
            · refine de_isi (tb := tInt) (ty := "int") rfl G.nb_isinstance rfl G.nb_int (by decide +kernel) (by decide) (by decide) tInt_ok ?_
              · exact db_var 0
            · refine de_and ?_ ?_
              · refine de_eq hr.units ?_ ?_
                · refine db_of ?_
                  · refine de_isi (tb := tBool) (ty := "bool") rfl G.nb_isinstance rfl G.nb_bool (by decide +kernel) (by decide) (by decide) tBool_ok ?_
                    · exact db_var 0
                · refine db_of ?_
                  · refine de_isi (tb := tBool) (ty := "bool") rfl G.nb_isinstance rfl G.nb_bool (by decide +kernel) (by decide) (by decide) tBool_ok ?_
                    · exact db_var 1
              · refine de_one ?_
                refine de_eq hr.units ?_ ?_
                · exact db_var 0
                · exact db_var 1
/-! _law_factor: 0 one, 1 other -/
noncomputable def f__law_factor : Fs := (fSeq (fWh [] (fLook2 oNe (fAt 1) (fVal (fC (.int 0)))) (fPar2 0 1 (fsCons (fSD (fVar 1)) (fsCons (fSD (fBin oMod (fUn oInt (fVar 0)) (fVar 1))) fsNil)))) (fRet (fSD (fUn oAbs (fVar 0)))))
noncomputable def φ__law_factor : List D → Rd := runD 2 f__law_factor
theorem sc__law_factor : FnScope (["one", "other"] : List Str) (["one", "other"] : List Str) (defScope s__law_factor) := ⟨rfl, rfl, rfl, by decide +kernel, rfl, by decide +kernel, by decide +kernel⟩
theorem ok__law_factor (G : Txt P K mg c0 c1 c2) : FnAt P w K mg base "_law_factor" 2 (["one", "other"] : List Str) (spD K mg (tab c0 c1 c2) φ__law_factor 2) := by
  refine atD (N := ["one", "other"]) (f := f__law_factor) G.t__law_factor sc__law_factor (by decide) fun a cdv A outer s H E hr gu => ?_
  have nd := sc__law_factor.nd
  refine dss_cons ?_ ?_
  · refine ds_while [] (passes_of rfl) ?_ ?_
    · refine dt_ne hr.units ?_ ?_
      · exact db_var 1
      · refine db_of ?_
        · exact de_int
    · refine dss_one ?_
      refine ds_par2 0 1 rfl nd ?_
      · refine dvs_cons ?_ ?_
        · refine dv_de ?_
          · exact de_var 1
        · refine dvs_cons ?_ ?_
          · refine dv_de ?_
            · refine de_mod ?_ ?_
              · refine de_toInt rfl G.nb_int ?_
                · exact de_var 0
              · exact de_var 1
          · exact dvs_nil
  · refine dss_one ?_
    refine ds_ret ?_
    · refine dv_de ?_
      · refine de_abs rfl G.nb_abs ?_
        · exact de_var 0
/-! _law_share: 0 top, 1 bottom, 2 factor -/
noncomputable def f__law_share : Fs := (fSeq (fSet 2 (fSD (fFz (fCallD φ__law_factor (fCons (fVar 0) (fCons (fVar 1) fNil)))))) (fSeq (fSet 2 (fSD (fIf (fLook2 oLt (fAt 1) (fVal (fC (.int 0)))) (fBin oSub (fC (.int 0)) (fVar 2)) (fVar 2)))) (fRet (fSD (fTup (fCons (fBin oDiv (fVar 0) (fVar 2)) (fCons (fBin oDiv (fVar 1) (fVar 2)) fNil)))))))
noncomputable def φ__law_share : List D → Rd := runD 3 f__law_share
theorem sc__law_share : FnScope (["top", "bottom", "factor"] : List Str) (["top", "bottom"] : List Str) (defScope s__law_share) := ⟨rfl, rfl, rfl, by decide +kernel, rfl, by decide +kernel, by decide +kernel⟩
theorem ok__law_share (G : Txt P K mg c0 c1 c2) : FnAt P w K mg base "_law_share" 3 (["top", "bottom"] : List Str) (spD K mg (tab c0 c1 c2) φ__law_share 2) := by
  refine atD (N := ["top", "bottom", "factor"]) (f := f__law_share) G.t__law_share sc__law_share (by decide) fun a cdv A outer s H E hr gu => ?_
  have nd := sc__law_share.nd
  refine dss_cons ?_ ?_
  · refine ds_set 2 nd ?_
    · refine dv_de ?_
      · refine ce_call (ok__law_factor G) hr gu (takes_of rfl rfl rfl rfl) ?_ (len_cons (len_cons len_nil))
        · refine da_cons ?_ ?_
          · exact de_var 0
          · refine da_cons ?_ ?_
            · exact de_var 1
            · exact da_nil
  · refine dss_cons ?_ ?_
    · refine ds_set 2 nd ?_
      · refine dv_de ?_
        · refine de_if ?_ ?_ ?_
          · refine dt_lt ?_ ?_
            · exact db_var 1
            · refine db_of ?_
              · exact de_int
          · refine de_sub ?_ ?_
            · exact de_int
            · exact de_var 2
          · exact de_var 2
    · refine dss_one ?_
      refine ds_ret ?_
      · refine dv_de ?_
        · refine de_tup ?_
          · refine da_cons ?_ ?_
            · refine de_div ?_ ?_
              · exact de_var 0
              · exact de_var 2
            · refine da_cons ?_ ?_
              · refine de_div ?_ ?_
                · exact de_var 1
                · exact de_var 2
              · exact da_nil
/-! _law_plus: 0 one, 1 other -/
noncomputable def f__law_plus : Fs := (fRet (fSD (fFz (fCallD φ__law_share (fCons (fBin oAdd (fBin oMul (fIx (fAt 0) (fC (.int 0))) (fIx (fAt 1) (fC (.int 1)))) (fBin oMul (fIx (fAt 1) (fC (.int 0))) (fIx (fAt 0) (fC (.int 1))))) (fCons (fBin oMul (fIx (fAt 0) (fC (.int 1))) (fIx (fAt 1) (fC (.int 1)))) fNil))))))
noncomputable def φ__law_plus : List D → Rd := runD 2 f__law_plus
theorem sc__law_plus : FnScope (["one", "other"] : List Str) (["one", "other"] : List Str) (defScope s__law_plus) := ⟨rfl, rfl, rfl, by decide +kernel, rfl, by decide +kernel, by decide +kernel⟩
theorem ok__law_plus (G : Txt P K mg c0 c1 c2) : FnAt P w K mg base "_law_plus" 4 (["one", "other"] : List Str) (spD K mg (tab c0 c1 c2) φ__law_plus 2) := by
  refine atD (N := ["one", "other"]) (f := f__law_plus) G.t__law_plus sc__law_plus (by decide) fun a cdv A outer s H E hr gu => ?_
  have nd := sc__law_plus.nd
  refine dss_one ?_
  refine ds_ret ?_
  · refine dv_de ?_
    · refine ce_call (ok__law_share G) hr gu (takes_of rfl rfl rfl rfl) ?_ (len_cons (len_cons len_nil))
      · refine da_cons ?_ ?_
        · refine de_add ?_ ?_
          · refine de_mul ?_ ?_
            · refine de_ix ?_ ?_
              · exact db_var 0
              · exact de_int
            · refine de_ix ?_ ?_
              · exact db_var 1
              · exact de_int
          · refine de_mul ?_ ?_
            · refine de_ix ?_ ?_
              · exact db_var 1
              · exact de_int
            · refine de_ix ?_ ?_
              · exact db_var 0
              · exact de_int
        · refine da_cons ?_ ?_
          · refine de_mul ?_ ?_
            · refine de_ix ?_ ?_
              · exact db_var 0
              · exact de_int
            · refine de_ix ?_ ?_
              · exact db_var 1
              · exact de_int
          · exact da_nil
/-! _law_times: 0 one, 1 other -/
noncomputable def f__law_times : Fs := (fRet (fSD (fFz (fCallD φ__law_share (fCons (fBin oMul (fIx (fAt 0) (fC (.int 0))) (fIx (fAt 1) (fC (.int 0)))) (fCons (fBin oMul (fIx (fAt 0) (fC (.int 1))) (fIx (fAt 1) (fC (.int 1)))) fNil))))))
noncomputable def φ__law_times : List D → Rd := runD 2 f__law_times
theorem sc__law_times : FnScope (["one", "other"] : List Str) (["one", "other"] : List Str) (defScope s__law_times) := ⟨rfl, rfl, rfl, by decide +kernel, rfl, by decide +kernel, by decide +kernel⟩
theorem ok__law_times (G : Txt P K mg c0 c1 c2) : FnAt P w K mg base "_law_times" 4 (["one", "other"] : List Str) (spD K mg (tab c0 c1 c2) φ__law_times 2) := by
  refine atD (N := ["one", "other"]) (f := f__law_times) G.t__law_times sc__law_times (by decide) fun a cdv A outer s H E hr gu => ?_
  have nd := sc__law_times.nd
  refine dss_one ?_
  refine ds_ret ?_
  · refine dv_de ?_
    · refine ce_call (ok__law_share G) hr gu (takes_of rfl rfl rfl rfl) ?_ (len_cons (len_cons len_nil))
      · refine da_cons ?_ ?_
        · refine de_mul ?_ ?_
          · refine de_ix ?_ ?_
            · exact db_var 0
            · exact de_int
          · refine de_ix ?_ ?_
            · exact db_var 1
            · exact de_int
        · refine da_cons ?_ ?_
          · refine de_mul ?_ ?_
            · refine de_ix ?_ ?_
              · exact db_var 0
              · exact de_int
            · refine de_ix ?_ ?_
              · exact db_var 1
              · exact de_int
          · exact da_nil
/-! _law_sum: 0 shares, 1 found, 2 one -/
noncomputable def f__law_sum : Fs := (fSeq (fSet 1 (fSD (fTup (fCons (fC (.int 0)) (fCons (fC (.int 1)) fNil))))) (fSeq (fFor [0, 2] (fItL (fVar 0)) (bName 2) (fSet 1 (fSD (fFz (fCallD φ__law_plus (fCons (fVar 1) (fCons (fVar 2) fNil))))))) (fRet (fSD (fVar 1)))))
noncomputable def φ__law_sum : List D → Rd := runD 3 f__law_sum
theorem sc__law_sum : FnScope (["shares", "found", "one"] : List Str) (["shares"] : List Str) (defScope s__law_sum) := ⟨rfl, rfl, rfl, by decide +kernel, rfl, by decide +kernel, by decide +kernel⟩
theorem ok__law_sum (G : Txt P K mg c0 c1 c2) : FnAt P w K mg base "_law_sum" 5 (["shares"] : List Str) (spD K mg (tab c0 c1 c2) φ__law_sum 1) := by
  refine atD (N := ["shares", "found", "one"]) (f := f__law_sum) G.t__law_sum sc__law_sum (by decide) fun a cdv A outer s H E hr gu => ?_
  have nd := sc__law_sum.nd
  refine dss_cons ?_ ?_
  · refine ds_set 1 nd ?_
    · refine dv_de ?_
      · refine de_tup ?_
        · refine da_cons ?_ ?_
          · exact de_int
          · refine da_cons ?_ ?_
            · exact de_int
            · exact da_nil
  · refine dss_cons ?_ ?_
    · refine ds_for [0, 2] (ws := [2]) (passes_of rfl) rfl ?_ ?_ ?_
      · refine di_list ?_
        · exact de_var 0
      · exact dg_name 2 nd
      · refine dss_one ?_
        refine ds_set 1 nd ?_
        · refine dv_de ?_
          · refine ce_call (ok__law_plus G) hr gu (takes_of rfl rfl rfl rfl) ?_ (len_cons (len_cons len_nil))
            · refine da_cons ?_ ?_
              · exact de_var 1
              · refine da_cons ?_ ?_
                · exact de_var 2
                · exact da_nil
    · refine dss_one ?_
      refine ds_ret ?_
      · refine dv_de ?_
        · exact de_var 1
/-! _law_is_less: 0 one, 1 other -/
noncomputable def f__law_is_less : Fs := (fRet (fSD (fBl (fLook2 oLt (fVal (fBin oMul (fIx (fAt 0) (fC (.int 0))) (fIx (fAt 1) (fC (.int 1))))) (fVal (fBin oMul (fIx (fAt 1) (fC (.int 0))) (fIx (fAt 0) (fC (.int 1)))))))))
noncomputable def φ__law_is_less : List D → Rd := runD 2 f__law_is_less
theorem sc__law_is_less : FnScope (["one", "other"] : List Str) (["one", "other"] : List Str) (defScope s__law_is_less) := ⟨rfl, rfl, rfl, by decide +kernel, rfl, by decide +kernel, by decide +kernel⟩
theorem ok__law_is_less (G : Txt P K mg c0 c1 c2) : FnAt P w K mg base "_law_is_less" 2 (["one", "other"] : List Str) (spD K mg (tab c0 c1 c2) φ__law_is_less 2) := by
  refine atD (N := ["one", "other"]) (f := f__law_is_less) G.t__law_is_less sc__law_is_less (by decide) fun a cdv A outer s H E hr gu => ?_
  have nd := sc__law_is_less.nd
  refine dss_one ?_
  refine ds_ret ?_
  · refine dv_de ?_
    · refine de_lt ?_ ?_
      · refine db_of ?_
        · refine de_mul ?_ ?_
          · refine de_ix ?_ ?_
            · exact db_var 0
            · exact de_int
          · refine de_ix ?_ ?_
            · exact db_var 1
            · exact de_int
      · refine db_of ?_
        · refine de_mul ?_ ?_
          · refine de_ix ?_ ?_
            · exact db_var 1
            · exact de_int
          · refine de_ix ?_ ?_
            · exact db_var 0
            · exact de_int
/-! _law_room_piece: 0 m, 1 most, 2 rooms, 3 signs, 4 outs, 5 steps, 6 room, 7 parts, 8 rest, 9 part, 10 end, 11 ins, 12 turn -/
noncomputable def f__law_room_piece : Fs := (fSeq (fParG [2, 3, 4] (fsCons (fSD (fFz (fCallM 0 φ__law_next (fCons (fBin oAdd (fVar 1) (fC (.int 1))) fNil)))) (fsCons (fSD (fFz (fCallM 0 φ__law_next (fCons (fC (.int 3)) fNil)))) (fsCons (fSD (fFz (fCallM 0 φ__law_next (fCons (fC (.int 3)) fNil)))) fsNil)))) (fSeq (fSet 5 (fSL (fLst fNil))) (fSeq (fFor [1, 6, 7, 8, 9, 10, 11, 12] (fRg1 (fVar 2)) (bName 6) (fSeq (fSet 7 (fSD (fBin oAdd (fC (.int 1)) (fFz (fCallM 0 φ__law_next (fCons (fC (.int 6)) fNil)))))) (fSeq (fSet 8 (fSD (fBin oSub (fVar 7) (fFz (fCallM 0 φ__law_of (fCons (fFr (fLst (fCons (fC (.int 0)) (fCons (fC (.int 0)) (fCons (fC (.int 0)) (fCons (fC (.int 1)) (fCons (fVar 7) fNil))))))) fNil)))))) (fWh [1, 9, 10, 11, 12] (fAnd (fLook2 oGt (fAt 8) (fVal (fC (.int 0)))) (fAnd (fLook2 oGt (fVal (fBin oAdd (fVar 2) (fVar 4))) (fVal (fC (.int 0)))) (fLook2 oLt (fVal (fLen (fAt 5))) (fVal (fC (.int 36)))))) (fSeq (fSet 9 (fSD (fBin oAdd (fC (.int 1)) (fFz (fCallM 0 φ__law_next (fCons (fVar 8) fNil)))))) (fSeq (fSet 10 (fSD (fFz (fCallM 0 φ__law_next (fCons (fBin oAdd (fVar 2) (fVar 4)) fNil))))) (fSeq (fApp 5 (fTup (fCons (fVar 6) (fCons (fFz (fCallM 0 φ__law_next (fCons (fBin oAdd (fVar 3) (fC (.int 1))) fNil))) (fCons (fVar 10) (fCons (fFz (fCallD φ__law_share (fCons (fVar 9) (fCons (fVar 7) fNil)))) fNil)))))) (fSet 8 (fSD (fBin oSub (fVar 8) (fVar 9))))))))))) (fSeq (fSet 11 (fSD (fIf (fLook2 oGt (fAt 2) (fVal (fC (.int 0)))) (fTuple (fVal (fFr (fLc [12] (fRg1 (fFz (fCallM 0 φ__law_next (fCons (fC (.int 3)) fNil)))) (bName 12) fYes (fFz (fCallM 0 φ__law_next (fCons (fVar 2) fNil))))))) (fTup fNil)))) (fRet (fSD (fTup (fCons (fVar 2) (fCons (fVar 3) (fCons (fTuple (fAt 5)) (fCons (fVar 11) (fCons (fVar 4) fNil))))))))))))
noncomputable def φ__law_room_piece : Addr → Dr → List D → Rm := runM 13 f__law_room_piece
theorem sc__law_room_piece : FnScope (["m", "most", "rooms", "signs", "outs", "steps", "room", "parts", "rest", "part", "end", "ins", "turn"] : List Str) (["m", "most"] : List Str) (defScope s__law_room_piece) := ⟨rfl, rfl, rfl, by decide +kernel, rfl, by decide +kernel, by decide +kernel⟩
theorem ok__law_room_piece (G : Txt P K mg c0 c1 c2) : FnAt P w K mg base "_law_room_piece" 4 (["m", "most"] : List Str) (spM K mg (tab c0 c1 c2) φ__law_room_piece 2) := by
  refine atM (N := ["m", "most", "rooms", "signs", "outs", "steps", "room", "parts", "rest", "part", "end", "ins", "turn"]) (f := f__law_room_piece) G.t__law_room_piece sc__law_room_piece (by decide) fun a cdv A outer s H E hr gu => ?_
  have nd := sc__law_room_piece.nd
  refine dss_cons ?_ ?_
  · refine ds_parG (is := [2, 3, 4]) rfl (dnm_cons 2 nd (dnm_cons 3 nd (dnm_cons 4 nd dnm_nil))) ?_
    · refine dvs_cons ?_ ?_
      · refine dv_de ?_
        · refine ce_callM 0 (ok__law_next G) hr gu (takes_of rfl rfl rfl rfl) ?_ (len_cons len_nil)
          · refine da_cons ?_ ?_
            · refine de_add ?_ ?_
              · exact de_var 1
              · exact de_int
            · exact da_nil
      · refine dvs_cons ?_ ?_
        · refine dv_de ?_
          · refine ce_callM 0 (ok__law_next G) hr gu (takes_of rfl rfl rfl rfl) ?_ (len_cons len_nil)
            · refine da_cons ?_ ?_
              · exact de_int
              · exact da_nil
        · refine dvs_cons ?_ ?_
          · refine dv_de ?_
            · refine ce_callM 0 (ok__law_next G) hr gu (takes_of rfl rfl rfl rfl) ?_ (len_cons len_nil)
              · refine da_cons ?_ ?_
                · exact de_int
                · exact da_nil
          · exact dvs_nil
  · refine dss_cons ?_ ?_
    · refine ds_set 5 nd ?_
      · refine dv_dn ?_
        · refine dn_lst ?_
          · exact da_nil
    · refine dss_cons ?_ ?_
      · refine ds_for [1, 6, 7, 8, 9, 10, 11, 12] (ws := [6]) (passes_of rfl) rfl ?_ ?_ ?_
        · refine di_range1 rfl G.nb_range ?_
          · exact de_var 2
        · exact dg_name 6 nd
        · refine dss_cons ?_ ?_
          · refine ds_set 7 nd ?_
            · refine dv_de ?_
              · refine de_add ?_ ?_
                · exact de_int
                · refine ce_callM 0 (ok__law_next G) hr gu (takes_of rfl rfl rfl rfl) ?_ (len_cons len_nil)
                  · refine da_cons ?_ ?_
                    · exact de_int
                    · exact da_nil
          · refine dss_cons ?_ ?_
            · refine ds_set 8 nd ?_
              · refine dv_de ?_
                · refine de_sub ?_ ?_
                  · exact de_var 7
                  · refine ce_callM 0 (ok__law_of G) hr gu (takes_of rfl rfl rfl rfl) ?_ (len_cons len_nil)
                    · refine da_cons ?_ ?_
                      · refine de_frz ?_
                        · refine dn_lst ?_
                          · refine da_cons ?_ ?_
                            · exact de_int
                            · refine da_cons ?_ ?_
                              · exact de_int
                              · refine da_cons ?_ ?_
                                · exact de_int
                                · refine da_cons ?_ ?_
                                  · exact de_int
                                  · refine da_cons ?_ ?_
                                    · exact de_var 7
                                    · exact da_nil
                      · exact da_nil
            · refine dss_one ?_
              refine ds_while [1, 9, 10, 11, 12] (passes_of rfl) ?_ ?_
              · refine dt_w ?_
                refine dw_and ?_ ?_
                · refine dt_gt ?_ ?_
                  · exact db_var 8
                  · refine db_of ?_
                    · exact de_int
                · refine dw_and ?_ ?_
                  · refine dt_gt ?_ ?_
                    · refine db_of ?_
                      · refine de_add ?_ ?_
                        · exact de_var 2
                        · exact de_var 4
                    · refine db_of ?_
                      · exact de_int
                  · refine dw_and1 ?_
                    refine dt_lt ?_ ?_
                    · refine db_of ?_
                      · refine de_len rfl G.nb_len ?_
                        · exact db_var 5
                    · refine db_of ?_
                      · exact de_int
              · refine dss_cons ?_ ?_
                · refine ds_set 9 nd ?_
                  · refine dv_de ?_
                    · refine de_add ?_ ?_
                      · exact de_int
                      · refine ce_callM 0 (ok__law_next G) hr gu (takes_of rfl rfl rfl rfl) ?_ (len_cons len_nil)
                        · refine da_cons ?_ ?_
                          · exact de_var 8
                          · exact da_nil
                · refine dss_cons ?_ ?_
                  · refine ds_set 10 nd ?_
                    · refine dv_de ?_
                      · refine ce_callM 0 (ok__law_next G) hr gu (takes_of rfl rfl rfl rfl) ?_ (len_cons len_nil)
                        · refine da_cons ?_ ?_
                          · refine de_add ?_ ?_
                            · exact de_var 2
                            · exact de_var 4
                          · exact da_nil
                  · refine dss_cons ?_ ?_
                    · refine ds_append 5 ?_
                      · refine de_tup ?_
                        · refine da_cons ?_ ?_
                          · exact de_var 6
                          · refine da_cons ?_ ?_
                            · refine ce_callM 0 (ok__law_next G) hr gu (takes_of rfl rfl rfl rfl) ?_ (len_cons len_nil)
                              · refine da_cons ?_ ?_
                                · refine de_add ?_ ?_
                                  · exact de_var 3
                                  · exact de_int
                                · exact da_nil
                            · refine da_cons ?_ ?_
                              · exact de_var 10
                              · refine da_cons ?_ ?_
                                · refine ce_call (ok__law_share G) hr gu (takes_of rfl rfl rfl rfl) ?_ (len_cons (len_cons len_nil))
                                  · refine da_cons ?_ ?_
                                    · exact de_var 9
                                    · refine da_cons ?_ ?_
                                      · exact de_var 7
                                      · exact da_nil
                                · exact da_nil
                    · refine dss_one ?_
                      refine ds_set 8 nd ?_
                      · refine dv_de ?_
                        · refine de_sub ?_ ?_
                          · exact de_var 8
                          · exact de_var 9
      · refine dss_cons ?_ ?_
        · refine ds_set 11 nd ?_
          · refine dv_de ?_
            · refine de_if ?_ ?_ ?_
              · refine dt_gt ?_ ?_
                · exact db_var 2
                · refine db_of ?_
                  · exact de_int
              · refine de_tuple rfl G.nb_tuple ?_
                · refine db_of ?_
                  · refine de_frz ?_
                    · refine dn_lc (own' := [("turn", 12)]) rfl nd ?_ (blkOk_by rfl) ?_ ?_ ?_
                      · refine di_range1 rfl G.nb_range ?_
                        · refine ce_callM 0 (ok__law_next G) hr gu (takes_of rfl rfl rfl rfl) ?_ (len_cons len_nil)
                          · refine da_cons ?_ ?_
                            · exact de_int
                            · exact da_nil
                      · intro _ _ _ _ _
                        exact dg_name 12 nd
                      · intro _ _ _ _ _
                        exact dts_nil
                      · intro _ _ _ _ _
                        refine ce_callM 0 (ok__law_next G) hr gu takes_none5 ?_ (len_cons len_nil)
                        · refine da_cons ?_ ?_
                          · exact de_var 2
                          · exact da_nil
              · refine de_tup ?_
                · exact da_nil
        · refine dss_one ?_
          refine ds_ret ?_
          · refine dv_de ?_
            · refine de_tup ?_
              · refine da_cons ?_ ?_
                · exact de_var 2
                · refine da_cons ?_ ?_
                  · exact de_var 3
                  · refine da_cons ?_ ?_
                    · refine de_tuple rfl G.nb_tuple ?_
                      · exact db_var 5
                    · refine da_cons ?_ ?_
                      · exact de_var 11
                      · refine da_cons ?_ ?_
                        · exact de_var 4
                        · exact da_nil
/-! _law_moves: 0 piece, 1 rows, 2 room, 3 row, 4 end, 5 step -/
noncomputable def f__law_moves : Fs := (fSeq (fSet 1 (fSL (fLst fNil))) (fSeq (fFor [2, 3, 4, 5] (fRg1 (fIx (fAt 0) (fC (.int 0)))) (bName 2) (fSeq (fSet 3 (fSL (fLst fNil))) (fSeq (fFor [4, 5] (fRg1 (fBin oAdd (fIx (fAt 0) (fC (.int 0))) (fIx (fAt 0) (fC (.int 4))))) (bName 4) (fApp 3 (fFz (fCallD φ__law_sum (fCons (fFr (fLc [5] (fItT (fIx (fAt 0) (fC (.int 2)))) (bName 5) (fAnd (fLook2 oEq (fVal (fIx (fAt 5) (fC (.int 0)))) (fAt 2)) (fLook2 oEq (fVal (fIx (fAt 5) (fC (.int 2)))) (fAt 4))) (fIx (fAt 5) (fC (.int 3))))) fNil))))) (fApp 1 (fVar 3))))) (fRet (fSD (fVar 1)))))
noncomputable def φ__law_moves : List D → Rd := runD 6 f__law_moves
theorem sc__law_moves : FnScope (["piece", "rows", "room", "row", "end", "step"] : List Str) (["piece"] : List Str) (defScope s__law_moves) := ⟨rfl, rfl, rfl, by decide +kernel, rfl, by decide +kernel, by decide +kernel⟩
theorem ok__law_moves (G : Txt P K mg c0 c1 c2) : FnAt P w K mg base "_law_moves" 6 (["piece"] : List Str) (spD K mg (tab c0 c1 c2) φ__law_moves 1) := by
  refine atD (N := ["piece", "rows", "room", "row", "end", "step"]) (f := f__law_moves) G.t__law_moves sc__law_moves (by decide) fun a cdv A outer s H E hr gu => ?_
  have nd := sc__law_moves.nd
  refine dss_cons ?_ ?_
  · refine ds_set 1 nd ?_
    · refine dv_dn ?_
      · refine dn_lst ?_
        · exact da_nil
  · refine dss_cons ?_ ?_
    · refine ds_for [2, 3, 4, 5] (ws := [2]) (passes_of rfl) rfl ?_ ?_ ?_
      · refine di_range1 rfl G.nb_range ?_
        · refine de_ix ?_ ?_
          · exact db_var 0
          · exact de_int
      · exact dg_name 2 nd
      · refine dss_cons ?_ ?_
        · refine ds_set 3 nd ?_
          · refine dv_dn ?_
            · refine dn_lst ?_
              · exact da_nil
        · refine dss_cons ?_ ?_
          · refine ds_for [4, 5] (ws := [4]) (passes_of rfl) rfl ?_ ?_ ?_
            · refine di_range1 rfl G.nb_range ?_
              · refine de_add ?_ ?_
                · refine de_ix ?_ ?_
                  · exact db_var 0
                  · exact de_int
                · refine de_ix ?_ ?_
                  · exact db_var 0
                  · exact de_int
            · exact dg_name 4 nd
            · refine dss_one ?_
              refine ds_append 3 ?_
              · refine ce_call (ok__law_sum G) hr gu (takes_of rfl rfl rfl rfl) ?_ (len_cons len_nil)
                · refine da_cons ?_ ?_
                  · refine de_frz ?_
                    · refine dn_lc (own' := [("step", 5)]) rfl nd ?_ (blkOk_by rfl) ?_ ?_ ?_
                      · refine di_tup ?_
                        · refine de_ix ?_ ?_
                          · exact db_var 0
                          · exact de_int
                      · intro _ _ _ _ _
                        exact dg_name 5 nd
                      · intro _ _ _ _ _
                        refine dts_one ?_
                        refine dt_w ?_
                        refine dw_and ?_ ?_
                        · refine dt_eq hr.units ?_ ?_
                          · refine db_of ?_
                            · refine de_ix ?_ ?_
                              · exact db_var 5
                              · exact de_int
                          · exact db_var 2
                        · refine dw_and1 ?_
                          refine dt_eq hr.units ?_ ?_
                          · refine db_of ?_
                            · refine de_ix ?_ ?_
                              · exact db_var 5
                              · exact de_int
                          · exact db_var 4
                      · intro _ _ _ _ _
                        refine de_ix ?_ ?_
                        · exact db_var 5
                        · exact de_int
                  · exact da_nil
          · refine dss_one ?_
            refine ds_append 1 ?_
            · exact de_var 3
    · refine dss_one ?_
      refine ds_ret ?_
      · refine dv_de ?_
        · exact de_var 1
/-! _law_behind: 0 rows, 1 room, 2 many, 3 here, 4 there, 5 turn, 6 later, 7 start, 8 end, 9 one -/
noncomputable def f__law_behind : Fs := (fSeq (fSet 3 (fSD (fFr (fLc [4] (fRg1 (fLen (fVal (fIx (fAt 0) (fC (.int 0)))))) (bName 4) fYes (fTup (fCons (fUn oInt (fBl (fLook2 oEq (fAt 4) (fAt 1)))) (fCons (fC (.int 1)) fNil))))))) (fSeq (fFor [1, 2, 4, 5, 6, 7, 8, 9] (fRg1 (fVar 2)) (bName 5) (fSeq (fSet 6 (fSD (fFr (fCat (fVal (fFr (fRep (fVal (fFr (fLst (fCons (fTup (fCons (fC (.int 0)) (fCons (fC (.int 1)) fNil))) fNil)))) (fLen (fAt 0))))) (fVal (fFr (fCut (fAt 3) (fSo (fLen (fAt 0))) fNo))))))) (fSeq (fFor [1, 2, 4, 5, 7, 8, 9] (fRg1 (fLen (fAt 0))) (bName 7) (fIfS (fLook2 oNe (fVal (fIx (fVal (fIx (fAt 3) (fVar 7))) (fC (.int 0)))) (fVal (fC (.int 0)))) (fSet 6 (fSD (fFr (fLc [8, 9] (fEnL (fVar 6)) (bTup 2 (bsCons (bName 8) (bsCons (bName 9) bsNil))) fYes (fFz (fCallD φ__law_plus (fCons (fVar 9) (fCons (fFz (fCallD φ__law_times (fCons (fIx (fAt 3) (fVar 7)) (fCons (fIx (fVal (fIx (fAt 0) (fVar 7))) (fVar 8)) fNil)))) fNil)))))))) fPass)) (fSet 3 (fSD (fVar 6)))))) (fRet (fSD (fVar 3)))))
noncomputable def φ__law_behind : List D → Rd := runD 10 f__law_behind
theorem sc__law_behind : FnScope (["rows", "room", "many", "here", "there", "turn", "later", "start", "end", "one"] : List Str) (["rows", "room", "many"] : List Str) (defScope s__law_behind) := ⟨rfl, rfl, rfl, by decide +kernel, rfl, by decide +kernel, by decide +kernel⟩
theorem ok__law_behind (G : Txt P K mg c0 c1 c2) : FnAt P w K mg base "_law_behind" 5 (["rows", "room", "many"] : List Str) (spD K mg (tab c0 c1 c2) φ__law_behind 3) := by
  refine atD (N := ["rows", "room", "many", "here", "there", "turn", "later", "start", "end", "one"]) (f := f__law_behind) G.t__law_behind sc__law_behind (by decide) fun a cdv A outer s H E hr gu => ?_
  have nd := sc__law_behind.nd
  refine dss_cons ?_ ?_
  · refine ds_set 3 nd ?_
    · refine dv_de ?_
      · refine de_frz ?_
        · refine dn_lc (own' := [("there", 4)]) rfl nd ?_ (blkOk_by rfl) ?_ ?_ ?_
          · refine di_range1 rfl G.nb_range ?_
            · refine de_len rfl G.nb_len ?_
              · refine db_of ?_
                · refine de_ix ?_ ?_
                  · exact db_var 0
                  · exact de_int
          · intro _ _ _ _ _
            exact dg_name 4 nd
          · intro _ _ _ _ _
            exact dts_nil
          · intro _ _ _ _ _
            refine de_tup ?_
            · refine da_cons ?_ ?_
              · refine de_toInt rfl G.nb_int ?_
                · refine de_eq hr.units ?_ ?_
                  · exact db_var 4
                  · exact db_var 1
              · refine da_cons ?_ ?_
                · exact de_int
                · exact da_nil
  · refine dss_cons ?_ ?_
    · refine ds_for [1, 2, 4, 5, 6, 7, 8, 9] (ws := [5]) (passes_of rfl) rfl ?_ ?_ ?_
      · refine di_range1 rfl G.nb_range ?_
        · exact de_var 2
      · exact dg_name 5 nd
      · refine dss_cons ?_ ?_
        · refine ds_set 6 nd ?_
          · refine dv_de ?_
            · refine de_frz ?_
              · refine dn_cat ?_ ?_
                · refine db_of ?_
                  · refine de_frz ?_
                    · refine dn_rep ?_ ?_
                      · refine db_of ?_
                        · refine de_frz ?_
                          · refine dn_lst ?_
                            · refine da_cons ?_ ?_
                              · refine de_tup ?_
                                · refine da_cons ?_ ?_
                                  · exact de_int
                                  · refine da_cons ?_ ?_
                                    · exact de_int
                                    · exact da_nil
                              · exact da_nil
                      · refine de_len rfl G.nb_len ?_
                        · exact db_var 0
                · refine db_of ?_
                  · refine de_frz ?_
                    · refine dn_cut ?_ ?_ ?_
                      · exact db_var 3
                      · refine do_some ?_
                        · refine de_len rfl G.nb_len ?_
                          · exact db_var 0
                      · exact do_none
        · refine dss_cons ?_ ?_
          · refine ds_for [1, 2, 4, 5, 7, 8, 9] (ws := [7]) (passes_of rfl) rfl ?_ ?_ ?_
            · refine di_range1 rfl G.nb_range ?_
              · refine de_len rfl G.nb_len ?_
                · exact db_var 0
            · exact dg_name 7 nd
            · refine dss_one ?_
              refine ds_if ?_ ?_ ?_
              · refine dt_ne hr.units ?_ ?_
                · refine db_of ?_
                  · refine de_ix ?_ ?_
                    · refine db_of ?_
                      · refine de_ix ?_ ?_
                        · exact db_var 3
                        · exact de_var 7
                    · exact de_int
                · refine db_of ?_
                  · exact de_int
              · refine dss_one ?_
                refine ds_setLc 6 (own' := [("end", 8), ("one", 9)]) imp_fz rfl nd ?_ (blkOk_by rfl) ?_ ?_ ?_
                · refine di_enL rfl G.nb_enumerate ?_
                  · exact de_var 6
                · intro _ _ _ _ _
                  refine dg_tup rfl ?_
                  · refine dgs_cons (vs := [8]) (ws := [9]) ?_ ?_
                    · exact dg_name 8 nd
                    · refine dgs_cons (vs := [9]) (ws := []) ?_ ?_
                      · exact dg_name 9 nd
                      · exact dgs_nil
                · intro _ _ _ _ _
                  exact dts_nil
                · intro _ _ _ _ _
                  refine ce_call (ok__law_plus G) hr gu takes_none5 ?_ (len_cons (len_cons len_nil))
                  · refine da_cons ?_ ?_
                    · exact de_var 9
                    · refine da_cons ?_ ?_
                      · refine ce_call (ok__law_times G) hr gu takes_none5 ?_ (len_cons (len_cons len_nil))
                        · refine da_cons ?_ ?_
                          · refine de_ix ?_ ?_
                            · exact db_var 3
                            · exact de_var 7
                          · refine da_cons ?_ ?_
                            · refine de_ix ?_ ?_
                              · refine db_of ?_
                                · refine de_ix ?_ ?_
                                  · exact db_var 0
                                  · exact de_var 7
                              · exact de_var 8
                            · exact da_nil
                      · exact da_nil
              · exact dss_nil
          · refine dss_one ?_
            refine ds_set 3 nd ?_
            · refine dv_de ?_
              · exact de_var 6
    · refine dss_one ?_
      refine ds_ret ?_
      · refine dv_de ?_
        · exact de_var 3
/-! _law_ring_piece: 0 m, 1 most, 2 layers, 3 rooms, 4 turn, 5 many, 6 order, 7 rest, 8 steps, 9 number, 10 layer, 11 ahead, 12 room, 13 end -/
noncomputable def f__law_ring_piece : Fs := (fSeq (fPar2 2 3 (fsCons (fSL (fLst fNil)) (fsCons (fSD (fC (.int 0))) fsNil))) (fSeq (fFor [4, 5, 6, 7, 8, 9, 10, 11, 12, 13] (fRg1 (fBin oAdd (fC (.int 1)) (fFz (fCallM 0 φ__law_next (fCons (fC (.int 4)) fNil))))) (bName 4) (fSeq (fSet 5 (fSD (fBin oAdd (fC (.int 1)) (fFz (fCallM 0 φ__law_next (fCons (fC (.int 2)) fNil)))))) (fIfS (fLook2 oLe (fVal (fBin oAdd (fVar 3) (fVar 5))) (fAt 1)) (fSeq (fApp 2 (fFr (fRg2 (fVar 3) (fBin oAdd (fVar 3) (fVar 5))))) (fSet 3 (fSD (fBin oAdd (fVar 3) (fVar 5))))) fPass))) (fSeq (fPar2 6 7 (fsCons (fSL (fLst fNil)) (fsCons (fSL (fRg1 (fVar 3))) fsNil))) (fSeq (fWh [1, 4, 5, 8, 9, 10, 11, 12, 13] (fLook2 oNe (fAt 7) (fVal (fFr (fLst fNil)))) (fApp 6 (fPopAt 7 (fFz (fCallM 0 φ__law_next (fCons (fLen (fAt 7)) fNil)))))) (fSeq (fSet 8 (fSL (fLst fNil))) (fSeq (fFor [1, 4, 5, 7, 9, 10, 11, 12, 13] (fEnL (fVar 2)) (bTup 2 (bsCons (bName 9) (bsCons (bName 10) bsNil))) (fSeq (fSet 11 (fSD (fIx (fAt 2) (fBin oMod (fUn oInt (fBin oAdd (fVar 9) (fC (.int 1)))) (fLen (fAt 2)))))) (fFor [1, 4, 5, 7, 9, 10, 12, 13] (fItL (fVar 10)) (bName 12) (fFor [1, 4, 5, 7, 9, 10, 13] (fItL (fVar 11)) (bName 13) (fApp 8 (fTup (fCons (fIx (fAt 6) (fVar 12)) (fCons (fC (.int 0)) (fCons (fIx (fAt 6) (fVar 13)) (fCons (fFz (fCallD φ__law_share (fCons (fC (.int 1)) (fCons (fLen (fAt 11)) fNil)))) fNil)))))))))) (fRet (fSD (fTup (fCons (fVar 3) (fCons (fC (.int 0)) (fCons (fTuple (fAt 8)) (fCons (fTup fNil) (fCons (fC (.int 0)) fNil))))))))))))))
noncomputable def φ__law_ring_piece : Addr → Dr → List D → Rm := runM 14 f__law_ring_piece
theorem sc__law_ring_piece : FnScope (["m", "most", "layers", "rooms", "turn", "many", "order", "rest", "steps", "number", "layer", "ahead", "room", "end"] : List Str) (["m", "most"] : List Str) (defScope s__law_ring_piece) := ⟨rfl, rfl, rfl, by decide +kernel, rfl, by decide +kernel, by decide +kernel⟩
theorem ok__law_ring_piece (G : Txt P K mg c0 c1 c2) : FnAt P w K mg base "_law_ring_piece" 4 (["m", "most"] : List Str) (spM K mg (tab c0 c1 c2) φ__law_ring_piece 2) := by
  refine atM (N := ["m", "most", "layers", "rooms", "turn", "many", "order", "rest", "steps", "number", "layer", "ahead", "room", "end"]) (f := f__law_ring_piece) G.t__law_ring_piece sc__law_ring_piece (by decide) fun a cdv A outer s H E hr gu => ?_
  have nd := sc__law_ring_piece.nd
  refine dss_cons ?_ ?_
  · refine ds_par2 2 3 rfl nd ?_
    · refine dvs_cons ?_ ?_
      · refine dv_dn ?_
        · refine dn_lst ?_
          · exact da_nil
      · refine dvs_cons ?_ ?_
        · refine dv_de ?_
          · exact de_int
        · exact dvs_nil
  · refine dss_cons ?_ ?_
    · refine ds_for [4, 5, 6, 7, 8, 9, 10, 11, 12, 13] (ws := [4]) (passes_of rfl) rfl ?_ ?_ ?_
      · refine di_range1 rfl G.nb_range ?_
        · refine de_add ?_ ?_
          · exact de_int
          · refine ce_callM 0 (ok__law_next G) hr gu (takes_of rfl rfl rfl rfl) ?_ (len_cons len_nil)
            · refine da_cons ?_ ?_
              · exact de_int
              · exact da_nil
      · exact dg_name 4 nd
      · refine dss_cons ?_ ?_
        · refine ds_set 5 nd ?_
          · refine dv_de ?_
            · refine de_add ?_ ?_
              · exact de_int
              · refine ce_callM 0 (ok__law_next G) hr gu (takes_of rfl rfl rfl rfl) ?_ (len_cons len_nil)
                · refine da_cons ?_ ?_
                  · exact de_int
                  · exact da_nil
        · refine dss_one ?_
          refine ds_if ?_ ?_ ?_
          · refine dt_le ?_ ?_
            · refine db_of ?_
              · refine de_add ?_ ?_
                · exact de_var 3
                · exact de_var 5
            · exact db_var 1
          · refine dss_cons ?_ ?_
            · refine ds_append 2 ?_
              · refine de_frz ?_
                · refine dn_listRg2 rfl rfl G.nb_list rfl G.nb_range ?_ ?_
                  · exact de_var 3
                  · refine de_add ?_ ?_
                    · exact de_var 3
                    · exact de_var 5
            · refine dss_one ?_
              refine ds_set 3 nd ?_
              · refine dv_de ?_
                · refine de_add ?_ ?_
                  · exact de_var 3
                  · exact de_var 5
          · exact dss_nil
    · refine dss_cons ?_ ?_
      · refine ds_par2 6 7 rfl nd ?_
        · refine dvs_cons ?_ ?_
          · refine dv_dn ?_
            · refine dn_lst ?_
              · exact da_nil
          · refine dvs_cons ?_ ?_
            · refine dv_dn ?_
              · refine dn_listRg1 rfl rfl G.nb_list rfl G.nb_range ?_
                · exact de_var 3
            · exact dvs_nil
      · refine dss_cons ?_ ?_
        · refine ds_while [1, 4, 5, 8, 9, 10, 11, 12, 13] (passes_of rfl) ?_ ?_
          · refine dt_ne hr.units ?_ ?_
            · exact db_var 7
            · refine db_of ?_
              · refine de_frz ?_
                · refine dn_lst ?_
                  · exact da_nil
          · refine dss_one ?_
            refine ds_append 6 ?_
            · refine de_popAt 7 ?_
              · refine ce_callM 0 (ok__law_next G) hr gu (takes_of rfl rfl rfl rfl) ?_ (len_cons len_nil)
                · refine da_cons ?_ ?_
                  · refine de_len rfl G.nb_len ?_
                    · exact db_var 7
                  · exact da_nil
        · refine dss_cons ?_ ?_
          · refine ds_set 8 nd ?_
            · refine dv_dn ?_
              · refine dn_lst ?_
                · exact da_nil
          · refine dss_cons ?_ ?_
            · refine ds_for [1, 4, 5, 7, 9, 10, 11, 12, 13] (ws := [9, 10]) (passes_of rfl) rfl ?_ ?_ ?_
              · refine di_enL rfl G.nb_enumerate ?_
                · exact de_var 2
              · refine dg_tup rfl ?_
                · refine dgs_cons (vs := [9]) (ws := [10]) ?_ ?_
                  · exact dg_name 9 nd
                  · refine dgs_cons (vs := [10]) (ws := []) ?_ ?_
                    · exact dg_name 10 nd
                    · exact dgs_nil
              · refine dss_cons ?_ ?_
                · refine ds_set 11 nd ?_
                  · refine dv_de ?_
                    · refine de_ix ?_ ?_
                      · exact db_var 2
                      · refine de_mod ?_ ?_
                        · refine de_toInt rfl G.nb_int ?_
                          · refine de_add ?_ ?_
                            · exact de_var 9
                            · exact de_int
                        · refine de_len rfl G.nb_len ?_
                          · exact db_var 2
                · refine dss_one ?_
                  refine ds_for [1, 4, 5, 7, 9, 10, 12, 13] (ws := [12]) (passes_of rfl) rfl ?_ ?_ ?_
                  · refine di_list ?_
                    · exact de_var 10
                  · exact dg_name 12 nd
                  · refine dss_one ?_
                    refine ds_for [1, 4, 5, 7, 9, 10, 13] (ws := [13]) (passes_of rfl) rfl ?_ ?_ ?_
                    · refine di_list ?_
                      · exact de_var 11
                    · exact dg_name 13 nd
                    · refine dss_one ?_
                      refine ds_append 8 ?_
                      · refine de_tup ?_
                        · refine da_cons ?_ ?_
                          · refine de_ix ?_ ?_
                            · exact db_var 6
                            · exact de_var 12
                          · refine da_cons ?_ ?_
                            · exact de_int
                            · refine da_cons ?_ ?_
                              · refine de_ix ?_ ?_
                                · exact db_var 6
                                · exact de_var 13
                              · refine da_cons ?_ ?_
                                · refine ce_call (ok__law_share G) hr gu (takes_of rfl rfl rfl rfl) ?_ (len_cons (len_cons len_nil))
                                  · refine da_cons ?_ ?_
                                    · exact de_int
                                    · refine da_cons ?_ ?_
                                      · refine de_len rfl G.nb_len ?_
                                        · exact db_var 11
                                      · exact da_nil
                                · exact da_nil
            · refine dss_one ?_
              refine ds_ret ?_
              · refine dv_de ?_
                · refine de_tup ?_
                  · refine da_cons ?_ ?_
                    · exact de_var 3
                    · refine da_cons ?_ ?_
                      · exact de_int
                      · refine da_cons ?_ ?_
                        · refine de_tuple rfl G.nb_tuple ?_
                          · exact db_var 8
                        · refine da_cons ?_ ?_
                          · refine de_tup ?_
                            · exact da_nil
                          · refine da_cons ?_ ?_
                            · exact de_int
                            · exact da_nil
/-! _law_right: 0 m, 1 piece, 2 rows, 3 room, 4 many, 5 more, 6 told, 7 far, 8 thing, 9 due, 10 there -/
noncomputable def f__law_right : Fs := (fSeq (fSet 2 (fSD (fFz (fCallD φ__law_moves (fCons (fVar 1) fNil))))) (fSeq (fFor [3, 4, 5, 6, 7, 8, 9, 10] (fRg1 (fIx (fAt 1) (fC (.int 0)))) (bName 3) (fSeq (fParG [4, 5] (fsCons (fSD (fFz (fCallM 0 φ__law_next (fCons (fC (.int 8)) fNil)))) (fsCons (fSD (fFz (fCallM 0 φ__law_next (fCons (fC (.int 6)) fNil)))) fsNil))) (fSeq (fSet 6 (fSD (fFz (fCallD φ_chances_behind (fArgK [2, 1, 0] 0 3 fNil (fCons (fVar 4) (fCons (fVar 3) (fCons (fVar 1) fNil)))))))) (fSeq (fIfS (fNot (fTb (fFz (fCallD (φ__law_like 6) (fCons (fVar 6) (fCons (fTuple (fVal (fFz (fCallD φ__law_behind (fCons (fVar 2) (fCons (fVar 3) (fCons (fVar 4) fNil))))))) fNil)))))) (fRet (fSD (fC (.bl false)))) fPass) (fSeq (fSet 7 (fSD (fFz (fCallD φ_chances_behind (fCons (fVar 1) (fCons (fVar 3) (fCons (fBin oAdd (fVar 4) (fVar 5)) fNil))))))) (fFor [4, 8, 9, 10] (fRg1 (fBin oAdd (fIx (fAt 1) (fC (.int 0))) (fIx (fAt 1) (fC (.int 4))))) (bName 8) (fSeq (fSet 9 (fSD (fFr (fLc [10] (fRg1 (fIx (fAt 1) (fC (.int 0)))) (bName 10) fYes (fFz (fCallD φ__law_times (fCons (fIx (fAt 6) (fVar 10)) (fCons (fIx (fVal (fFz (fCallD φ_chances_behind (fCons (fVar 1) (fCons (fVar 10) (fCons (fVar 5) fNil)))))) (fVar 8)) fNil)))))))) (fSeq (fIfS (fLook2 oNe (fVal (fIx (fAt 7) (fVar 8))) (fVal (fFz (fCallD φ__law_sum (fCons (fFr (fCat (fAt 9) (fVal (fIf (fLook2 oGe (fAt 8) (fVal (fIx (fAt 1) (fC (.int 0))))) (fFr (fLst (fCons (fIx (fAt 6) (fVar 8)) fNil))) (fFr (fLst fNil)))))) fNil))))) (fRet (fSD (fC (.bl false)))) fPass) (fIfS (fAnd (fLook2 oGe (fAt 8) (fVal (fIx (fAt 1) (fC (.int 0))))) (fOr (fTb (fFz (fCallD φ__law_is_less (fCons (fIx (fAt 7) (fVar 8)) (fCons (fIx (fAt 6) (fVar 8)) fNil))))) (fTb (fFz (fCallD φ__law_is_less (fCons (fIx (fVal (fFz (fCallD φ_arrivals_of (fCons (fVar 1) (fCons (fTup (fCons (fVar 8) fNil)) fNil))))) (fVar 3)) (fCons (fIx (fAt 7) (fVar 8)) fNil))))))) (fRet (fSD (fC (.bl false)))) fPass))))))))) (fRet (fSD (fC (.bl true))))))
noncomputable def φ__law_right : Addr → Dr → List D → Rm := runM 11 f__law_right
theorem sc__law_right : FnScope (["m", "piece", "rows", "room", "many", "more", "told", "far", "thing", "due", "there"] : List Str) (["m", "piece"] : List Str) (defScope s__law_right) := ⟨rfl, rfl, rfl, by decide +kernel, rfl, by decide +kernel, by decide +kernel⟩
theorem kb_chances_behind_1 (G : Txt P K mg c0 c1 c2) : KBindsX K mg "chances_behind" (["many", "room", "piece"] : List Str) (["piece", "room", "many"] : List Str) [2, 1, 0] 0 3 := KBindsX.mk G.t_chances_behind (by decide) fun _ _ _ _ _ _ us ws hu hw => match us, ws, hu, hw with | [], [_, _, _], _, _ => rfl
theorem ok__law_right (G : Txt P K mg c0 c1 c2) : FnAt P w K mg base "_law_right" 9 (["m", "piece"] : List Str) (spM K mg (tab c0 c1 c2) φ__law_right 2) := by
  refine atM (N := ["m", "piece", "rows", "room", "many", "more", "told", "far", "thing", "due", "there"]) (f := f__law_right) G.t__law_right sc__law_right (by decide) fun a cdv A outer s H E hr gu => ?_
  have nd := sc__law_right.nd
  refine dss_cons ?_ ?_
  · refine ds_set 2 nd ?_
    · refine dv_de ?_
      · refine ce_call (ok__law_moves G) hr gu (takes_of rfl rfl rfl rfl) ?_ (len_cons len_nil)
        · refine da_cons ?_ ?_
          · exact de_var 1
          · exact da_nil
  · refine dss_cons ?_ ?_
    · refine ds_for [3, 4, 5, 6, 7, 8, 9, 10] (ws := [3]) (passes_of rfl) rfl ?_ ?_ ?_
      · refine di_range1 rfl G.nb_range ?_
        · refine de_ix ?_ ?_
          · exact db_var 1
          · exact de_int
      · exact dg_name 3 nd
      · refine dss_cons ?_ ?_
        · refine ds_parG (is := [4, 5]) rfl (dnm_cons 4 nd (dnm_cons 5 nd dnm_nil)) ?_
          · refine dvs_cons ?_ ?_
            · refine dv_de ?_
              · refine ce_callM 0 (ok__law_next G) hr gu (takes_of rfl rfl rfl rfl) ?_ (len_cons len_nil)
                · refine da_cons ?_ ?_
                  · exact de_int
                  · exact da_nil
            · refine dvs_cons ?_ ?_
              · refine dv_de ?_
                · refine ce_callM 0 (ok__law_next G) hr gu (takes_of rfl rfl rfl rfl) ?_ (len_cons len_nil)
                  · refine da_cons ?_ ?_
                    · exact de_int
                    · exact da_nil
              · exact dvs_nil
        · refine dss_cons ?_ ?_
          · refine ds_set 6 nd ?_
            · refine dv_de ?_
              · refine ce_callK0 (idx := [2, 1, 0]) (b := 3) (ok_chances_behind G) hr gu (takes_of rfl rfl rfl rfl) (kb_chances_behind_1 G) ?_ (len_sel rfl rfl (len_cons (len_cons (len_cons len_nil))))
                · refine dk_cons ?_ ?_
                  · exact de_var 4
                  · refine dk_cons ?_ ?_
                    · exact de_var 3
                    · refine dk_cons ?_ ?_
                      · exact de_var 1
                      · exact dk_nil
          · refine dss_cons ?_ ?_
            · refine ds_if ?_ ?_ ?_
              · refine dt_not ?_
                · refine dt_val ?_
                  · refine ce_call (ok__law_like G 6) hr gu (takes_of rfl rfl rfl rfl) ?_ (len_cons (len_cons len_nil))
                    · refine da_cons ?_ ?_
                      · exact de_var 6
                      · refine da_cons ?_ ?_
                        · refine de_tuple rfl G.nb_tuple ?_
                          · refine db_of ?_
                            · refine ce_call (ok__law_behind G) hr gu (takes_of rfl rfl rfl rfl) ?_ (len_cons (len_cons (len_cons len_nil)))
                              · refine da_cons ?_ ?_
                                · exact de_var 2
                                · refine da_cons ?_ ?_
                                  · exact de_var 3
                                  · refine da_cons ?_ ?_
                                    · exact de_var 4
                                    · exact da_nil
                        · exact da_nil
              · refine dss_one ?_
                refine ds_ret ?_
                · refine dv_de ?_
                  · exact de_bl
              · exact dss_nil
            · refine dss_cons ?_ ?_
              · refine ds_set 7 nd ?_
                · refine dv_de ?_
                  · refine ce_call (ok_chances_behind G) hr gu (takes_of rfl rfl rfl rfl) ?_ (len_cons (len_cons (len_cons len_nil)))
                    · refine da_cons ?_ ?_
                      · exact de_var 1
                      · refine da_cons ?_ ?_
                        · exact de_var 3
                        · refine da_cons ?_ ?_
                          · refine de_add ?_ ?_
                            · exact de_var 4
                            · exact de_var 5
                          · exact da_nil
              · refine dss_one ?_
                refine ds_for [4, 8, 9, 10] (ws := [8]) (passes_of rfl) rfl ?_ ?_ ?_
                · refine di_range1 rfl G.nb_range ?_
                  · refine de_add ?_ ?_
                    · refine de_ix ?_ ?_
                      · exact db_var 1
                      · exact de_int
                    · refine de_ix ?_ ?_
                      · exact db_var 1
                      · exact de_int
                · exact dg_name 8 nd
                · refine dss_cons ?_ ?_
                  · refine ds_setLc 9 (own' := [("there", 10)]) imp_fz rfl nd ?_ (blkOk_by rfl) ?_ ?_ ?_
                    · refine di_range1 rfl G.nb_range ?_
                      · refine de_ix ?_ ?_
                        · exact db_var 1
                        · exact de_int
                    · intro _ _ _ _ _
                      exact dg_name 10 nd
                    · intro _ _ _ _ _
                      exact dts_nil
                    · intro _ _ _ _ _
                      refine ce_call (ok__law_times G) hr gu takes_none5 ?_ (len_cons (len_cons len_nil))
                      · refine da_cons ?_ ?_
                        · refine de_ix ?_ ?_
                          · exact db_var 6
                          · exact de_var 10
                        · refine da_cons ?_ ?_
                          · refine de_ix ?_ ?_
                            · refine db_of ?_
                              · refine ce_call (ok_chances_behind G) hr gu takes_none5 ?_ (len_cons (len_cons (len_cons len_nil)))
                                · refine da_cons ?_ ?_
                                  · exact de_var 1
                                  · refine da_cons ?_ ?_
                                    · exact de_var 10
                                    · refine da_cons ?_ ?_
                                      · exact de_var 5
                                      · exact da_nil
                            · exact de_var 8
                          · exact da_nil
                  · refine dss_cons ?_ ?_
                    · refine ds_if ?_ ?_ ?_
                      · refine dt_ne hr.units ?_ ?_
                        · refine db_of ?_
                          · refine de_ix ?_ ?_
                            · exact db_var 7
                            · exact de_var 8
                        · refine db_of ?_
                          · refine ce_call (ok__law_sum G) hr gu (takes_of rfl rfl rfl rfl) ?_ (len_cons len_nil)
                            · refine da_cons ?_ ?_
                              · refine de_frz ?_
                                · refine dn_cat ?_ ?_
                                  · exact db_var 9
                                  · refine db_of ?_
                                    · refine de_if ?_ ?_ ?_
                                      · refine dt_ge ?_ ?_
                                        · exact db_var 8
                                        · refine db_of ?_
                                          · refine de_ix ?_ ?_
                                            · exact db_var 1
                                            · exact de_int
                                      · refine de_frz ?_
                                        · refine dn_lst ?_
                                          · refine da_cons ?_ ?_
                                            · refine de_ix ?_ ?_
                                              · exact db_var 6
                                              · exact de_var 8
                                            · exact da_nil
                                      · refine de_frz ?_
                                        · refine dn_lst ?_
                                          · exact da_nil
                              · exact da_nil
                      · refine dss_one ?_
                        refine ds_ret ?_
                        · refine dv_de ?_
                          · exact de_bl
                      · exact dss_nil
                    · refine dss_one ?_
                      refine ds_if ?_ ?_ ?_
                      · refine dt_w ?_
                        refine dw_and ?_ ?_
                        · refine dt_ge ?_ ?_
                          · exact db_var 8
                          · refine db_of ?_
                            · refine de_ix ?_ ?_
                              · exact db_var 1
                              · exact de_int
                        · refine dw_and1 ?_
                          refine dt_w ?_
                          refine dw_or ?_ ?_
                          · refine dt_val ?_
                            · refine ce_call (ok__law_is_less G) hr gu (takes_of rfl rfl rfl rfl) ?_ (len_cons (len_cons len_nil))
                              · refine da_cons ?_ ?_
                                · refine de_ix ?_ ?_
                                  · exact db_var 7
                                  · exact de_var 8
                                · refine da_cons ?_ ?_
                                  · refine de_ix ?_ ?_
                                    · exact db_var 6
                                    · exact de_var 8
                                  · exact da_nil
                          · refine dw_or1 ?_
                            refine dt_val ?_
                            · refine ce_call (ok__law_is_less G) hr gu (takes_of rfl rfl rfl rfl) ?_ (len_cons (len_cons len_nil))
                              · refine da_cons ?_ ?_
                                · refine de_ix ?_ ?_
                                  · refine db_of ?_
                                    · refine ce_call (ok_arrivals_of G) hr gu (takes_of rfl rfl rfl rfl) ?_ (len_cons (len_cons len_nil))
                                      · refine da_cons ?_ ?_
                                        · exact de_var 1
                                        · refine da_cons ?_ ?_
                                          · refine de_tup ?_
                                            · refine da_cons ?_ ?_
                                              · exact de_var 8
                                              · exact da_nil
                                          · exact da_nil
                                  · exact de_var 3
                                · refine da_cons ?_ ?_
                                  · refine de_ix ?_ ?_
                                    · exact db_var 7
                                    · exact de_var 8
                                  · exact da_nil
                      · refine dss_one ?_
                        refine ds_ret ?_
                        · refine dv_de ?_
                          · exact de_bl
                      · exact dss_nil
    · refine dss_one ?_
      refine ds_ret ?_
      · refine dv_de ?_
        · exact de_bl
/-! law: 0 script, 1 m, 2 turn, 3 piece, 4 bad, 5 e, 6 coin, 7 power -/
noncomputable def f_law : Fs := (fSeq (fFor [0, 2, 3, 4, 5, 6, 7] (fRg1 (fC (.int 4))) (bName 2) (fSeq (fSet 3 (fSD (fFz (fCallM 1 φ__law_room_piece (fCons (fC (.int 5)) fNil))))) (fSeq (fIfS (fOr (fNot (fTb (fFz (fCallM 1 φ__law_right (fCons (fVar 3) fNil))))) (fNot (fTb (fFz (fCallM 1 φ__law_right (fCons (fFz (fCallM 1 φ__law_ring_piece (fCons (fC (.int 5)) fNil))) fNil)))))) (fRet (fSD (fC (.bl false)))) fPass) (fFor [0, 2, 4, 5, 6, 7] (fItT (fTup (fCons (fUn oNeg (fC (.int 1))) (fCons (fIx (fAt 3) (fC (.int 0))) (fCons (fC (.bl true)) (fCons (fC .non) (fCons (fC (.str "0")) (fCons (fTup (fCons (fC (.int 0)) fNil)) fNil)))))))) (bName 4) (fTry 5 cat_2 (fSeq (fExpr (fFz (fCallD φ_chances_behind (fCons (fVar 3) (fCons (fVar 4) (fCons (fC .non) fNil)))))) (fRet (fSD (fC (.bl false))))) (fIfS (fLook2 oNe (fVal (fRepr (fVal (fXf 5 2)))) (fVal (fRepr (fAt 4)))) (fRet (fSD (fC (.bl false)))) fPass)))))) (fSeq (fParG [6, 7] (fsCons (fSD (fTup (fCons (fC (.int 1)) (fCons (fC (.int 0)) (fCons (fTup (fCons (fTup (fCons (fC (.int 0)) (fCons (fC (.int 0)) (fCons (fC (.int 0)) (fCons (fTup (fCons (fC (.int 1)) (fCons (fC (.int 2)) fNil))) fNil))))) (fCons (fTup (fCons (fC (.int 0)) (fCons (fC (.int 0)) (fCons (fC (.int 1)) (fCons (fTup (fCons (fC (.int 1)) (fCons (fC (.int 2)) fNil))) fNil))))) fNil))) (fCons (fTup fNil) (fCons (fC (.int 1)) fNil))))))) (fsCons (fSD (fC (.int 1))) fsNil))) (fSeq (fFor [0, 1, 2, 3, 4, 5] (fItT (fTup (fCons (fUn oNeg (fC (.int 1))) (fCons (fC (.int 201)) (fCons (fC (.bl true)) (fCons (fC .non) (fCons (fC (.str "3")) (fCons (fTup (fCons (fC (.int 1)) fNil)) fNil)))))))) (bName 4) (fTry 5 cat_2 (fSeq (fExpr (fFz (fCallD φ_chances_behind (fCons (fVar 6) (fCons (fC (.int 0)) (fCons (fVar 4) fNil)))))) (fRet (fSD (fC (.bl false))))) (fIfS (fLook2 oNe (fVal (fRepr (fVal (fXf 5 2)))) (fVal (fRepr (fAt 4)))) (fRet (fSD (fC (.bl false)))) fPass))) (fSeq (fFor [0, 1, 2, 3, 4, 5] (fRg1 (fC (.int 200))) (bName 2) (fSet 7 (fSD (fBin oMul (fC (.int 2)) (fVar 7))))) (fRet (fSD (fFz (fCallD (φ__law_like 6) (fCons (fTup (fCons (fFz (fCallD φ_chances_behind (fCons (fVar 6) (fCons (fC (.int 0)) (fCons (fC (.int 0)) fNil))))) (fCons (fFz (fCallD φ_chances_behind (fCons (fVar 6) (fCons (fC (.int 0)) (fCons (fC (.int 200)) fNil))))) fNil))) (fCons (fTup (fCons (fTup (fCons (fTup (fCons (fC (.int 1)) (fCons (fC (.int 1)) fNil))) (fCons (fTup (fCons (fC (.int 0)) (fCons (fC (.int 1)) fNil))) fNil))) (fCons (fTup (fCons (fTup (fCons (fC (.int 1)) (fCons (fVar 7) fNil))) (fCons (fTup (fCons (fBin oSub (fVar 7) (fC (.int 1))) (fCons (fVar 7) fNil))) fNil))) fNil))) fNil))))))))))
theorem sc_law : FnScope (["script", "m", "turn", "piece", "bad", "e", "coin", "power"] : List Str) (["script"] : List Str) (defScope s_law) := ⟨rfl, rfl, rfl, by decide +kernel, rfl, by decide +kernel, by decide +kernel⟩
theorem ws_law (G : Txt P K mg c0 c1 c2) (a : Addr) (cdv : Value) (A : Around) (outer : List Env) (s : Shared) (H : Hp) (E : XK) (hr : Room 9 (A.deeper (envOfC "law" (defScope s_law) s.heap.objs.size a cdv))) (gu : A.guards = some []) :
    DSs (cxOf (L2.CX P w) P w K mg base (["script", "m", "turn", "piece", "bad", "e", "coin", "power"] : List Str) "law" (defScope s_law) a cdv A outer s H E) (tab c0 c1 c2) none (fun cls d _ H => E cls d H) ((defBody s_law).drop 1) f_law := by
  have nd := sc_law.nd
  refine dss_cons ?_ ?_
  · refine ds_for [0, 2, 3, 4, 5, 6, 7] (ws := [2]) (passes_of rfl) rfl ?_ ?_ ?_
    · refine di_range1 rfl G.nb_range ?_
      · exact de_int
    · exact dg_name 2 nd
    · refine dss_cons ?_ ?_
      · refine ds_set 3 nd ?_
        · refine dv_de ?_
          · refine ce_callM 1 (ok__law_room_piece G) hr gu (takes_of rfl rfl rfl rfl) ?_ (len_cons len_nil)
            · refine da_cons ?_ ?_
              · exact de_int
              · exact da_nil
      · refine dss_cons ?_ ?_
        · refine ds_if ?_ ?_ ?_
          · refine dt_w ?_
            refine dw_or ?_ ?_
            · refine dt_not ?_
              · refine dt_val ?_
                · refine ce_callM 1 (ok__law_right G) hr gu (takes_of rfl rfl rfl rfl) ?_ (len_cons len_nil)
                  · refine da_cons ?_ ?_
                    · exact de_var 3
                    · exact da_nil
            · refine dw_or1 ?_
              refine dt_not ?_
              · refine dt_val ?_
                · refine ce_callM 1 (ok__law_right G) hr gu (takes_of rfl rfl rfl rfl) ?_ (len_cons len_nil)
                  · refine da_cons ?_ ?_
                    · refine ce_callM 1 (ok__law_ring_piece G) hr gu (takes_of rfl rfl rfl rfl) ?_ (len_cons len_nil)
                      · refine da_cons ?_ ?_
                        · exact de_int
                        · exact da_nil
                    · exact da_nil
          · refine dss_one ?_
            refine ds_ret ?_
            · refine dv_de ?_
              · exact de_bl
          · exact dss_nil
        · refine dss_one ?_
          refine ds_for [0, 2, 4, 5, 6, 7] (ws := [4]) (passes_of rfl) rfl ?_ ?_ ?_
          · refine di_tup ?_
            · refine de_tup ?_
              · refine da_cons ?_ ?_
                · refine de_neg ?_
                  · exact de_int
                · refine da_cons ?_ ?_
                  · refine de_ix ?_ ?_
                    · exact db_var 3
                    · exact de_int
                  · refine da_cons ?_ ?_
                    · exact de_bl
                    · refine da_cons ?_ ?_
                      · exact de_non
                      · refine da_cons ?_ ?_
                        · exact de_str
                        · refine da_cons ?_ ?_
                          · refine de_tup ?_
                            · refine da_cons ?_ ?_
                              · exact de_int
                              · exact da_nil
                          · exact da_nil
          · exact dg_name 4 nd
          · refine dss_one ?_
            refine ds_try 5 rfl rfl nd ⟨rfl, by decide, .inl G.xg_2⟩ (takes_of rfl rfl rfl rfl) G.xc_2 ?_ ?_
            · intro W1 pn1 xe1 tk1 hp1
              refine dss_cons ?_ ?_
              · refine ds_expr ?_
                · refine ce_call (ok_chances_behind G) hr gu tk1 ?_ (len_cons (len_cons (len_cons len_nil)))
                  · refine da_cons ?_ ?_
                    · exact de_var 3
                    · refine da_cons ?_ ?_
                      · exact de_var 4
                      · refine da_cons ?_ ?_
                        · exact de_non
                        · exact da_nil
              · refine dss_one ?_
                refine ds_ret ?_
                · refine dv_de ?_
                  · exact de_bl
            · intro a1 oe1 cls1 d1 pn1 hz hf
              refine dss_one ?_
              refine ds_if ?_ ?_ ?_
              · refine dt_ne hr.units ?_ ?_
                · refine db_of ?_
                  · refine de_repr gu hr.units rfl G.nb_repr ?_
                    · refine db_of ?_
                      · exact de_xf 5 2 (G.xf_2) (G.xn_2) hz hf
                · refine db_of ?_
                  · refine de_repr gu hr.units rfl G.nb_repr ?_
                    · exact db_var 4
              · refine dss_one ?_
                refine ds_ret ?_
                · refine dv_de ?_
                  · exact de_bl
              · exact dss_nil
  · refine dss_cons ?_ ?_
    · refine ds_parG (is := [6, 7]) rfl (dnm_cons 6 nd (dnm_cons 7 nd dnm_nil)) ?_
      · refine dvs_cons ?_ ?_
        · refine dv_de ?_
          · refine de_tup ?_
            · refine da_cons ?_ ?_
              · exact de_int
              · refine da_cons ?_ ?_
                · exact de_int
                · refine da_cons ?_ ?_
                  · refine de_tup ?_
                    · refine da_cons ?_ ?_
                      · refine de_tup ?_
                        · refine da_cons ?_ ?_
                          · exact de_int
                          · refine da_cons ?_ ?_
                            · exact de_int
                            · refine da_cons ?_ ?_
                              · exact de_int
                              · refine da_cons ?_ ?_
                                · refine de_tup ?_
                                  · refine da_cons ?_ ?_
                                    · exact de_int
                                    · refine da_cons ?_ ?_
                                      · exact de_int
                                      · exact da_nil
                                · exact da_nil
                      · refine da_cons ?_ ?_
                        · refine de_tup ?_
                          · refine da_cons ?_ ?_
                            · exact de_int
                            · refine da_cons ?_ ?_
                              · exact de_int
                              · refine da_cons ?_ ?_
                                · exact de_int
                                · refine da_cons ?_ ?_
                                  · refine de_tup ?_
                                    · refine da_cons ?_ ?_
                                      · exact de_int
                                      · refine da_cons ?_ ?_
                                        · exact de_int
                                        · exact da_nil
                                  · exact da_nil
                        · exact da_nil
                  · refine da_cons ?_ ?_
                    · refine de_tup ?_
                      · exact da_nil
                    · refine da_cons ?_ ?_
                      · exact de_int
                      · exact da_nil
        · refine dvs_cons ?_ ?_
          · refine dv_de ?_
            · exact de_int
          · exact dvs_nil
    · refine dss_cons ?_ ?_
      · refine ds_for [0, 1, 2, 3, 4, 5] (ws := [4]) (passes_of rfl) rfl ?_ ?_ ?_
        · refine di_tup ?_
          · refine de_tup ?_
            · refine da_cons ?_ ?_
              · refine de_neg ?_
                · exact de_int
              · refine da_cons ?_ ?_
                · exact de_int
                · refine da_cons ?_ ?_
                  · exact de_bl
                  · refine da_cons ?_ ?_
                    · exact de_non
                    · refine da_cons ?_ ?_
                      · exact de_str
                      · refine da_cons ?_ ?_
                        · refine de_tup ?_
                          · refine da_cons ?_ ?_
                            · exact de_int
                            · exact da_nil
                        · exact da_nil
        · exact dg_name 4 nd
        · refine dss_one ?_
          refine ds_try 5 rfl rfl nd ⟨rfl, by decide, .inl G.xg_2⟩ (takes_of rfl rfl rfl rfl) G.xc_2 ?_ ?_
          · intro W1 pn1 xe1 tk1 hp1
            refine dss_cons ?_ ?_
            · refine ds_expr ?_
              · refine ce_call (ok_chances_behind G) hr gu tk1 ?_ (len_cons (len_cons (len_cons len_nil)))
                · refine da_cons ?_ ?_
                  · exact de_var 6
                  · refine da_cons ?_ ?_
                    · exact de_int
                    · refine da_cons ?_ ?_
                      · exact de_var 4
                      · exact da_nil
            · refine dss_one ?_
              refine ds_ret ?_
              · refine dv_de ?_
                · exact de_bl
          · intro a1 oe1 cls1 d1 pn1 hz hf
            refine dss_one ?_
            refine ds_if ?_ ?_ ?_
            · refine dt_ne hr.units ?_ ?_
              · refine db_of ?_
                · refine de_repr gu hr.units rfl G.nb_repr ?_
                  · refine db_of ?_
                    · exact de_xf 5 2 (G.xf_2) (G.xn_2) hz hf
              · refine db_of ?_
                · refine de_repr gu hr.units rfl G.nb_repr ?_
                  · exact db_var 4
            · refine dss_one ?_
              refine ds_ret ?_
              · refine dv_de ?_
                · exact de_bl
            · exact dss_nil
      · refine dss_cons ?_ ?_
        · refine ds_for [0, 1, 2, 3, 4, 5] (ws := [2]) (passes_of rfl) rfl ?_ ?_ ?_
          · refine di_range1 rfl G.nb_range ?_
            · exact de_int
          · exact dg_name 2 nd
          · refine dss_one ?_
            refine ds_set 7 nd ?_
            · refine dv_de ?_
              · refine de_mul ?_ ?_
                · exact de_int
                · exact de_var 7
        · refine dss_one ?_
          refine ds_ret ?_
          · refine dv_de ?_
            · refine ce_call (ok__law_like G 6) hr gu (takes_of rfl rfl rfl rfl) ?_ (len_cons (len_cons len_nil))
              · refine da_cons ?_ ?_
                · refine de_tup ?_
                  · refine da_cons ?_ ?_
                    · refine ce_call (ok_chances_behind G) hr gu (takes_of rfl rfl rfl rfl) ?_ (len_cons (len_cons (len_cons len_nil)))
                      · refine da_cons ?_ ?_
                        · exact de_var 6
                        · refine da_cons ?_ ?_
                          · exact de_int
                          · refine da_cons ?_ ?_
                            · exact de_int
                            · exact da_nil
                    · refine da_cons ?_ ?_
                      · refine ce_call (ok_chances_behind G) hr gu (takes_of rfl rfl rfl rfl) ?_ (len_cons (len_cons (len_cons len_nil)))
                        · refine da_cons ?_ ?_
                          · exact de_var 6
                          · refine da_cons ?_ ?_
                            · exact de_int
                            · refine da_cons ?_ ?_
                              · exact de_int
                              · exact da_nil
                      · exact da_nil
                · refine da_cons ?_ ?_
                  · refine de_tup ?_
                    · refine da_cons ?_ ?_
                      · refine de_tup ?_
                        · refine da_cons ?_ ?_
                          · refine de_tup ?_
                            · refine da_cons ?_ ?_
                              · exact de_int
                              · refine da_cons ?_ ?_
                                · exact de_int
                                · exact da_nil
                          · refine da_cons ?_ ?_
                            · refine de_tup ?_
                              · refine da_cons ?_ ?_
                                · exact de_int
                                · refine da_cons ?_ ?_
                                  · exact de_int
                                  · exact da_nil
                            · exact da_nil
                      · refine da_cons ?_ ?_
                        · refine de_tup ?_
                          · refine da_cons ?_ ?_
                            · refine de_tup ?_
                              · refine da_cons ?_ ?_
                                · exact de_int
                                · refine da_cons ?_ ?_
                                  · exact de_var 7
                                  · exact da_nil
                            · refine da_cons ?_ ?_
                              · refine de_tup ?_
                                · refine da_cons ?_ ?_
                                  · refine de_sub ?_ ?_
                                    · exact de_var 7
                                    · exact de_int
                                  · refine da_cons ?_ ?_
                                    · exact de_var 7
                                    · exact da_nil
                              · exact da_nil
                        · exact da_nil
                  · exact da_nil
theorem sc__law_begun : FnScope (["script", "cell"] : List Str) (["script"] : List Str) (defScope s__law_begun) := ⟨rfl, rfl, rfl, by decide +kernel, rfl, by decide +kernel, by decide +kernel⟩
theorem ok__law_begun (G : Txt P K mg c0 c1 c2) : FnAt P w K mg base "_law_begun" 2 (["script"] : List Str) (spBg K) := by
  obtain ⟨a, fd, hm, Fu, bd⟩ := G.t__law_begun
  refine ⟨a, fd, hm, Fu.kp, Fu.at_, bd, fnG_of Fu sc__law_begun (fun vs H Q E ⟨a, ns, e, _⟩ => by rw [e]; rfl) fun cdv A outer s H vs Q E hr gu prom => ?_⟩
  have key : ∃ t, PSs (cxOf (L2.CX P w) P w K mg base (["script", "cell"] : List Str) "_law_begun" (defScope s__law_begun) a cdv A outer s H E) (defBody s__law_begun) t ∧ ∀ vs H' Q E', spBg K vs H' Q E' → t { nx := fun _ H' => Q .non H', rt := Q } (L2.start (["script", "cell"] : List Str) vs) H' := by
    refine ps_begun rfl rfl (blkOk_by (by rfl)) (by rfl) G.nb_list G.nb_int (fun _ _ _ _ _ => by rfl) (by exact .inl rfl) (fun _ _ => by exact .inl rfl) (fun _ _ => by rfl)
  obtain ⟨t, ht, hh⟩ := key
  exact ⟨t, ht, hh _ _ _ _ prom⟩
theorem ok_law (G : Txt P K mg c0 c1 c2) {fa : Addr} {fd : FuncData} (Fu : Fun K "law" "law" s_law fa fd) (good : ∀ (p : Addr) (ns : List Int), ns.length ≤ 63 → ∃ ρ', f_law (entL 8 1 p (begun ns)) = .rt (.dat (.bl true)) ρ') : FnG P w K mg base 10 fa fd (["script"] : List Str) (spLw K) := by
  refine fnG_of Fu sc_law (fun vs H Q E ⟨a, ns, e, _⟩ => by rw [e]; rfl) fun cdv A outer s H vs Q E hr gu prom => ?_
  obtain ⟨ab, fb, hm, kb, _, bb, Fb⟩ := ok__law_begun (w := w) (base := base) G
  have nd := sc_law.nd
  obtain ⟨t, ht, hh⟩ := dss_law (X := cxOf (L2.CX P w) P w K mg base (["script", "m", "turn", "piece", "bad", "e", "coin", "power"] : List Str) "law" (defScope s_law) fa cdv A outer s H E) 1 nd Fb (hr.mono (by decide)) gu hm kb bb (takes_of rfl rfl rfl rfl) (ws_law G fa cdv A outer s H E hr gu) (k1 := 8) rfl rfl rfl (.inl rfl) (by decide) (by decide) rfl (by first | exact Or.inl rfl | exact Or.inr rfl) (by first | exact .inl rfl | exact .inr rfl) rfl rfl good
  exact ⟨t, ht, hh _ _ _ _ prom⟩
theorem all_mk {h : Heap} {fa : Addr} (good : ∀ (p : Addr) (ns : List Int), ns.length ≤ 63 → ∃ ρ', f_law (entL 8 1 p (begun ns)) = .rt (.dat (.bl true)) ρ') (X : K.In h) (G : h.Ns mainGlobals mg) (hfa : mg "law" = some (.ref fa))
    (F0 : FnF K "is_number" s_is_number)
    (F1 : FnF K "is_among" s_is_among)
    (F2 : FnF K "is_tuple_of" s_is_tuple_of)
    (F3 : FnF K "common_factor" s_common_factor)
    (F4 : FnF K "made_share" s_made_share)
    (F5 : FnF K "is_share" s_is_share)
    (F6 : FnF K "is_small_share" s_is_small_share)
    (F7 : FnF K "plus_by" s_plus_by)
    (F8 : FnF K "minus_by" s_minus_by)
    (F9 : FnF K "times_by" s_times_by)
    (F10 : FnF K "is_less_by" s_is_less_by)
    (F11 : FnF K "sum_by" s_sum_by)
    (F12 : FnF K "product_sum_by" s_product_sum_by)
    (F13 : FnF K "plain_row" s_plain_row)
    (F14 : FnF K "solved_shares" s_solved_shares)
    (F15 : FnF K "is_step" s_is_step)
    (F16 : FnF K "need_piece" s_need_piece)
    (F17 : FnF K "need_begin_room" s_need_begin_room)
    (F18 : FnF K "is_aim" s_is_aim)
    (F19 : FnF K "need_right_aim" s_need_right_aim)
    (F20 : FnF K "need_aim" s_need_aim)
    (F21 : FnF K "moves_by" s_moves_by)
    (F22 : FnF K "leading_to" s_leading_to)
    (F23 : FnF K "arrivals_by" s_arrivals_by)
    (F24 : FnF K "arrivals_of" s_arrivals_of)
    (F25 : FnF K "chances_behind" s_chances_behind)
    (F26 : FnF K "_law_begun" s__law_begun)
    (F27 : FnF K "_law_next" s__law_next)
    (F28 : FnF K "_law_of" s__law_of)
    (F29 : FnF K "_law_like" s__law_like)
    (F30 : FnF K "_law_factor" s__law_factor)
    (F31 : FnF K "_law_share" s__law_share)
    (F32 : FnF K "_law_plus" s__law_plus)
    (F33 : FnF K "_law_times" s__law_times)
    (F34 : FnF K "_law_sum" s__law_sum)
    (F35 : FnF K "_law_is_less" s__law_is_less)
    (F36 : FnF K "_law_room_piece" s__law_room_piece)
    (F37 : FnF K "_law_moves" s__law_moves)
    (F38 : FnF K "_law_behind" s__law_behind)
    (F39 : FnF K "_law_ring_piece" s__law_ring_piece)
    (F40 : FnF K "_law_right" s__law_right)
    (F41 : FnF K "law" s_law)
    (n_abs : PySem.W.nsIn K mainGlobals "abs" = some none)
    (n_all : PySem.W.nsIn K mainGlobals "all" = some none)
    (n_any : PySem.W.nsIn K mainGlobals "any" = some none)
    (n_bool : PySem.W.nsIn K mainGlobals "bool" = some none)
    (n_enumerate : PySem.W.nsIn K mainGlobals "enumerate" = some none)
    (n_int : PySem.W.nsIn K mainGlobals "int" = some none)
    (n_isinstance : PySem.W.nsIn K mainGlobals "isinstance" = some none)
    (n_len : PySem.W.nsIn K mainGlobals "len" = some none)
    (n_list : PySem.W.nsIn K mainGlobals "list" = some none)
    (n_range : PySem.W.nsIn K mainGlobals "range" = some none)
    (n_repr : PySem.W.nsIn K mainGlobals "repr" = some none)
    (n_sorted : PySem.W.nsIn K mainGlobals "sorted" = some none)
    (n_str : PySem.W.nsIn K mainGlobals "str" = some none)
    (n_super : PySem.W.nsIn K mainGlobals "super" = some none)
    (n_tuple : PySem.W.nsIn K mainGlobals "tuple" = some none)
    (n_zip : PySem.W.nsIn K mainGlobals "zip" = some none)
    (g_ZERO : GlD K mg "ZERO" (.tup [.int 0, .int 1]))
    (g_ONE : GlD K mg "ONE" (.tup [.int 1, .int 1]))
    (g_MOST_NUMBER : GlD K mg "MOST_NUMBER" (.int 1000000000000))
    (g_MOST_ROOMS : GlD K mg "MOST_ROOMS" (.int 12))
    (g_MOST_SIGNS : GlD K mg "MOST_SIGNS" (.int 3))
    (g_MOST_STEPS : GlD K mg "MOST_STEPS" (.int 40))
    (g_MOST_DOORS : GlD K mg "MOST_DOORS" (.int 3))
    (g_MOST_BEHIND : GlD K mg "MOST_BEHIND" (.int 200))
    (y0 : PySem.W.nsIn K mainGlobals "BadPiece" = some (some (.ref c0)))
    (x0 : ∃ fI txt, XTxt P K c0 fI txt "place" "place")
    (y1 : PySem.W.nsIn K mainGlobals "BadList" = some (some (.ref c1)))
    (x1 : ∃ fI txt, XTxt P K c1 fI txt "place" "place")
    (y2 : PySem.W.nsIn K mainGlobals "BadNumber" = some (some (.ref c2)))
    (x2 : ∃ fI txt, XTxt P K c2 fI txt "value" "value")
    (ga2 : PySem.W.findIn K (.ref c2) "__getattribute__" = some (some (.builtin "BaseException.__getattribute__")))
    (gg2 : PySem.W.findIn K (.ref c2) "__getattr__" = some none)
    (eC2 : PySem.W.subIn K (.ref c2) (.type "BaseException") = some true)
    (hd2 : PySem.W.hasDictIn K c2 = true)
    (xn2 : PySem.W.findIn K (.ref c2) "value" = some none)
    (ic2 : PySem.W.isClsIn K c2 = true)
    (ty2 : PySem.W.typeIn K (.ref c2) = some (.type "type"))
    (sb0_2 : PySem.W.subIn K (.ref c0) (.ref c2) = some false)
    (sb1_2 : PySem.W.subIn K (.ref c1) (.ref c2) = some false)
    (sb2_2 : PySem.W.subIn K (.ref c2) (.ref c2) = some true) :
    ∃ fd : FuncData, (∀ (s : Shared) (u : Value), BindsTo s fd ⟨[u], []⟩ [("script", u)]) ∧ ∀ base : Heap, K.In base → base.Ns mainGlobals mg → FnG P w K mg base 10 fa fd (["script"] : List Str) (spLw K) := by
  have T : Txt P K mg c0 c1 c2 :=
    { t_is_number := F0.tx (ps := ["thing"]) X G (fun _ _ _ _ _ _ us hu => match us, hu with | [_], _ => rfl),
      t_is_among := F1.tx (ps := ["thing", "least", "most"]) X G (fun _ _ _ _ _ _ us hu => match us, hu with | [_, _, _], _ => rfl),
      t_is_tuple_of := F2.tx (ps := ["thing", "least", "most"]) X G (fun _ _ _ _ _ _ us hu => match us, hu with | [_, _, _], _ => rfl),
      t_common_factor := F3.tx (ps := ["one", "other"]) X G (fun _ _ _ _ _ _ us hu => match us, hu with | [_, _], _ => rfl),
      t_made_share := F4.tx (ps := ["top", "bottom"]) X G (fun _ _ _ _ _ _ us hu => match us, hu with | [_, _], _ => rfl),
      t_is_share := F5.tx (ps := ["thing"]) X G (fun _ _ _ _ _ _ us hu => match us, hu with | [_], _ => rfl),
      t_is_small_share := F6.tx (ps := ["thing"]) X G (fun _ _ _ _ _ _ us hu => match us, hu with | [_], _ => rfl),
      t_plus_by := F7.tx (ps := ["one", "other"]) X G (fun _ _ _ _ _ _ us hu => match us, hu with | [_, _], _ => rfl),
      t_minus_by := F8.tx (ps := ["one", "other"]) X G (fun _ _ _ _ _ _ us hu => match us, hu with | [_, _], _ => rfl),
      t_times_by := F9.tx (ps := ["one", "other"]) X G (fun _ _ _ _ _ _ us hu => match us, hu with | [_, _], _ => rfl),
      t_is_less_by := F10.tx (ps := ["one", "other"]) X G (fun _ _ _ _ _ _ us hu => match us, hu with | [_, _], _ => rfl),
      t_sum_by := F11.tx (ps := ["shares"]) X G (fun _ _ _ _ _ _ us hu => match us, hu with | [_], _ => rfl),
      t_product_sum_by := F12.tx (ps := ["ones", "others"]) X G (fun _ _ _ _ _ _ us hu => match us, hu with | [_, _], _ => rfl),
      t_plain_row := F13.tx (ps := ["row"]) X G (fun _ _ _ _ _ _ us hu => match us, hu with | [_], _ => rfl),
      t_solved_shares := F14.tx (ps := ["matrix", "columns"]) X G (fun _ _ _ _ _ _ us hu => match us, hu with | [_, _], _ => rfl),
      t_is_step := F15.tx (ps := ["thing", "rooms", "signs", "outs"]) X G (fun _ _ _ _ _ _ us hu => match us, hu with | [_, _, _, _], _ => rfl),
      t_need_piece := F16.tx (ps := ["piece"]) X G (fun _ _ _ _ _ _ us hu => match us, hu with | [_], _ => rfl),
      t_need_begin_room := F17.tx (ps := ["piece", "room"]) X G (fun _ _ _ _ _ _ us hu => match us, hu with | [_, _], _ => rfl),
      t_is_aim := F18.tx (ps := ["piece", "thing"]) X G (fun _ _ _ _ _ _ us hu => match us, hu with | [_, _], _ => rfl),
      t_need_right_aim := F19.tx (ps := ["piece", "aim", "word"]) X G (fun _ _ _ _ _ _ us hu => match us, hu with | [_, _, _], _ => rfl),
      t_need_aim := F20.tx (ps := ["piece", "aim"]) X G (fun _ _ _ _ _ _ us hu => match us, hu with | [_, _], _ => rfl),
      t_moves_by := F21.tx (ps := ["piece"]) X G (fun _ _ _ _ _ _ us hu => match us, hu with | [_], _ => rfl),
      t_leading_to := F22.tx (ps := ["rows", "aim", "gone"]) X G (fun _ _ _ _ _ _ us hu => match us, hu with | [_, _, _], _ => rfl),
      t_arrivals_by := F23.tx (ps := ["rows", "aim", "gone"]) X G (fun _ _ _ _ _ _ us hu => match us, hu with | [_, _, _], _ => rfl),
      t_arrivals_of := F24.tx (ps := ["piece", "aim"]) X G (fun _ _ _ _ _ _ us hu => match us, hu with | [_, _], _ => rfl),
      t_chances_behind := F25.tx (ps := ["piece", "room", "many"]) X G (fun _ _ _ _ _ _ us hu => match us, hu with | [_, _, _], _ => rfl),
      t__law_begun := F26.tx (ps := ["script"]) X G (fun _ _ _ _ _ _ us hu => match us, hu with | [_], _ => rfl),
      t__law_next := F27.tx (ps := ["m", "many"]) X G (fun _ _ _ _ _ _ us hu => match us, hu with | [_, _], _ => rfl),
      t__law_of := F28.tx (ps := ["m", "some"]) X G (fun _ _ _ _ _ _ us hu => match us, hu with | [_, _], _ => rfl),
      t__law_like := F29.tx (ps := ["got", "due"]) X G (fun _ _ _ _ _ _ us hu => match us, hu with | [_, _], _ => rfl),
      t__law_factor := F30.tx (ps := ["one", "other"]) X G (fun _ _ _ _ _ _ us hu => match us, hu with | [_, _], _ => rfl),
      t__law_share := F31.tx (ps := ["top", "bottom"]) X G (fun _ _ _ _ _ _ us hu => match us, hu with | [_, _], _ => rfl),
      t__law_plus := F32.tx (ps := ["one", "other"]) X G (fun _ _ _ _ _ _ us hu => match us, hu with | [_, _], _ => rfl),
      t__law_times := F33.tx (ps := ["one", "other"]) X G (fun _ _ _ _ _ _ us hu => match us, hu with | [_, _], _ => rfl),
      t__law_sum := F34.tx (ps := ["shares"]) X G (fun _ _ _ _ _ _ us hu => match us, hu with | [_], _ => rfl),
      t__law_is_less := F35.tx (ps := ["one", "other"]) X G (fun _ _ _ _ _ _ us hu => match us, hu with | [_, _], _ => rfl),
      t__law_room_piece := F36.tx (ps := ["m", "most"]) X G (fun _ _ _ _ _ _ us hu => match us, hu with | [_, _], _ => rfl),
      t__law_moves := F37.tx (ps := ["piece"]) X G (fun _ _ _ _ _ _ us hu => match us, hu with | [_], _ => rfl),
      t__law_behind := F38.tx (ps := ["rows", "room", "many"]) X G (fun _ _ _ _ _ _ us hu => match us, hu with | [_, _, _], _ => rfl),
      t__law_ring_piece := F39.tx (ps := ["m", "most"]) X G (fun _ _ _ _ _ _ us hu => match us, hu with | [_, _], _ => rfl),
      t__law_right := F40.tx (ps := ["m", "piece"]) X G (fun _ _ _ _ _ _ us hu => match us, hu with | [_, _], _ => rfl),
      nb_abs := PySem.W.mg_none_of X G n_abs,
      nb_all := PySem.W.mg_none_of X G n_all,
      nb_any := PySem.W.mg_none_of X G n_any,
      nb_bool := PySem.W.mg_none_of X G n_bool,
      nb_enumerate := PySem.W.mg_none_of X G n_enumerate,
      nb_int := PySem.W.mg_none_of X G n_int,
      nb_isinstance := PySem.W.mg_none_of X G n_isinstance,
      nb_len := PySem.W.mg_none_of X G n_len,
      nb_list := PySem.W.mg_none_of X G n_list,
      nb_range := PySem.W.mg_none_of X G n_range,
      nb_repr := PySem.W.mg_none_of X G n_repr,
      nb_sorted := PySem.W.mg_none_of X G n_sorted,
      nb_str := PySem.W.mg_none_of X G n_str,
      nb_super := PySem.W.mg_none_of X G n_super,
      nb_tuple := PySem.W.mg_none_of X G n_tuple,
      nb_zip := PySem.W.mg_none_of X G n_zip,
      g_ZERO := g_ZERO,
      g_ONE := g_ONE,
      g_MOST_NUMBER := g_MOST_NUMBER,
      g_MOST_ROOMS := g_MOST_ROOMS,
      g_MOST_SIGNS := g_MOST_SIGNS,
      g_MOST_STEPS := g_MOST_STEPS,
      g_MOST_DOORS := g_MOST_DOORS,
      g_MOST_BEHIND := g_MOST_BEHIND,
      x_0 := x0,
      xg_0 := PySem.W.mg_of X G y0,
      x_1 := x1,
      xg_1 := PySem.W.mg_of X G y1,
      x_2 := x2,
      xg_2 := PySem.W.mg_of X G y2,
      xf_2 := ⟨ga2, gg2, eC2, hd2⟩,
      xn_2 := xn2,
      xc_2 := (fun k b h => match k, h with | 0, h => by cases h; exact exm_mk eC2 ic2 ty2 sb0_2 | 1, h => by cases h; exact exm_mk eC2 ic2 ty2 sb1_2 | 2, h => by cases h; exact exm_mk eC2 ic2 ty2 sb2_2 | k + 3, h => by cases h) }
  obtain ⟨f, oc, od, kV, doc, pm, an, cdv, ct, osl, ha, hl, hc, hk⟩ := F41
  obtain rfl : f = fa := by
    have hm := PySem.W.mg_of X G ha
    rw [hm] at hfa
    cases hfa
    rfl
  exact ⟨_, fun s u => .of_eq rfl, fun base _ _ => ok_law T (fun_mk hl hc hk) good⟩
end
end K44
namespace K44
open Dt PySem
/-! ### plain words -/
def isI : D → Bool
  | .int _ => true
  | _ => false
/-- no def within -/
def noF : D → Bool
  | .fn _ => false
  | _ => true
theorem m_is_number {d : D} (h : noF d = true) : φ_is_number [d] = .rt (.dat (.bl (isI d))) := by
  cases d <;> first | rfl | cases h
@[simp] theorem m_is_number_i {i : Int} : φ_is_number [.int i] = .rt (.dat (.bl true)) := rfl
theorem m_is_among_int (i a b : Int) : φ_is_among [.int i, .int a, .int b] = .rt (.dat (.bl (decide (a ≤ i) && decide (i ≤ b)))) := by
  show runD 3 f_is_among _ = _
  unfold runD f_is_among
  by_cases h : a ≤ i
  · simp [h]
  · simp [h]
theorem m_is_among_no {d : D} (a b : Int) (h : isI d = false) (h' : noF d = true) : φ_is_among [d, .int a, .int b] = .rt (.dat (.bl false)) := by
  show runD 3 f_is_among _ = _
  unfold runD f_is_among
  simp [m_is_number h', h]
theorem m_common_factor (a b : Int) : φ_common_factor [.int a, .int b] = .rt (.dat (.int (Int.gcd a b))) := by
  show runD 2 f_common_factor _ = _
  have key := wh_rel (vs := []) (c := fLook2 oNe (fAt 1) (fVal (fC (.int 0)))) (body := fPar2 0 1 (fsCons (fSD (fVar 1)) (fsCons (fSD (fBin oMod (fVar 0) (fVar 1))) fsNil)))
    (fun n ρ => ∃ x y : Int, ρ = [.dat (.int x), .dat (.int y)] ∧ y.natAbs = n ∧ Int.gcd x y = Int.gcd a b) (fun ρ => ∃ x : Int, ρ = [.dat (.int x), .dat (.int 0)] ∧ x.natAbs = Int.gcd a b)
    (fun n ρ ⟨x, y, e, hn, hg⟩ => by
      subst e
      by_cases h : y = 0
      · subst h
        exact .inl ⟨_, by simp, x, rfl, by rw [← hg]; simp⟩
      · refine .inr ⟨_, _, _, by simp [h]; rfl, .inl (by simp [oMod_ok h]), ?_, y, x.fmod y, rfl, rfl, by rw [gcd_fmod, hg]⟩
        rw [← hn]
        exact fmod_lt h)
    b.natAbs [.dat (.int a), .dat (.int b)] ⟨a, b, rfl, rfl, rfl⟩
  obtain ⟨ρ', e, x, e2, hx⟩ := key
  subst e2
  unfold runD f_common_factor
  simp [e]
  rw [← hx]
  split <;> omega
theorem m_made_share {a b : Int} {n : Nat} (hb : b ≠ 0) (hB : Bt n b) (hn : n ≤ 8999) : φ_made_share [.int a, .int b] = .rt (.dat (Sh (Rat.divInt a b))) := by
  show runD 3 f_made_share _ = _
  have g0 : (Int.gcd a b : Int) ≠ 0 := fun z => hb (Int.gcd_eq_zero_iff.mp (Int.ofNat.inj z)).2
  have gB : Bt n (Int.gcd a b) := Bt.gcd hB hb
  have ok : ∀ x, divOk x (Int.gcd a b) = true := fun x => gB.divOk (by omega) g0
  have ok' : ∀ x, divOk x (-(Int.gcd a b : Int)) = true := fun x => gB.neg.divOk (by omega) (by omega)
  unfold runD f_made_share Sh
  rw [Rat.num_divInt, Rat.den_divInt, if_neg hb]
  have da : (Int.gcd a b : Int) ∣ a := Int.gcd_dvd_left ..
  have db : (Int.gcd a b : Int) ∣ b := Int.gcd_dvd_right ..
  by_cases c : b < 0
  · simp [m_common_factor, c, oDiv_ok (ok' _), -divOk]
    rw [Int.gcd_comm b a, Int.sign_eq_neg_one_of_neg c, Int.fdiv_eq_ediv_of_dvd (Int.neg_dvd.mpr da), Int.fdiv_eq_ediv_of_dvd (Int.neg_dvd.mpr db), Int.ediv_neg, Int.ediv_neg, Int.neg_one_mul, Int.neg_ediv_of_dvd da]
    refine ⟨rfl, ?_⟩
    rw [← Int.neg_ediv_of_dvd db]
    congr 1
    omega
  · simp [m_common_factor, c, oDiv_ok (ok _), -divOk]
    rw [Int.gcd_comm b a, Int.sign_eq_one_of_pos (by omega), Int.fdiv_eq_ediv_of_dvd da, Int.fdiv_eq_ediv_of_dvd db, Int.one_mul]
    refine ⟨rfl, ?_⟩
    congr 1
    omega
theorem m_plus_by {p q : Rat} {n : Nat} (hp : Sz n p) (hq : Sz n q) (hn : n ≤ 4000) : φ_plus_by [Sh p, Sh q] = .rt (.dat (Sh (p + q))) := by
  show runD 2 f_plus_by _ = _
  have h1 := m_made_share (a := p.num * q.den + q.num * p.den) (den00 p q) (hp.2.mul hq.2) (by omega)
  have e1 := hp.1.mulOk hq.2 (by omega)
  have e2 := hq.1.mulOk hp.2 (by omega)
  have e3 := hp.2.mulOk hq.2 (by omega)
  rw [Rat.add_def', ← Rat.divInt_ofNat, Int.natCast_mul]
  unfold runD f_plus_by
  unfold Sh at *
  simp [oMul_ok e1, oMul_ok e2, oMul_ok e3, h1, -mulOk]
theorem m_minus_by {p q : Rat} {n : Nat} (hp : Sz n p) (hq : Sz n q) (hn : n ≤ 4000) : φ_minus_by [Sh p, Sh q] = .rt (.dat (Sh (p - q))) := by
  show runD 2 f_minus_by _ = _
  have h1 := m_made_share (a := p.num * q.den - q.num * p.den) (den00 p q) (hp.2.mul hq.2) (by omega)
  have e1 := hp.1.mulOk hq.2 (by omega)
  have e2 := hq.1.mulOk hp.2 (by omega)
  have e3 := hp.2.mulOk hq.2 (by omega)
  rw [Rat.sub_def', ← Rat.divInt_ofNat, Int.natCast_mul]
  unfold runD f_minus_by
  unfold Sh at *
  simp [oMul_ok e1, oMul_ok e2, oMul_ok e3, h1, -mulOk]
theorem m_times_by {p q : Rat} {n : Nat} (hp : Sz n p) (hq : Sz n q) (hn : n ≤ 4000) : φ_times_by [Sh p, Sh q] = .rt (.dat (Sh (p * q))) := by
  show runD 2 f_times_by _ = _
  have h1 := m_made_share (a := p.num * q.num) (den00 p q) (hp.2.mul hq.2) (by omega)
  have e1 := hp.1.mulOk hq.1 (by omega)
  have e3 := hp.2.mulOk hq.2 (by omega)
  rw [Rat.mul_def', ← Rat.divInt_ofNat, Int.natCast_mul]
  unfold runD f_times_by
  unfold Sh at *
  simp [oMul_ok e1, oMul_ok e3, h1, -mulOk]
theorem m_is_less_by {p q : Rat} {n : Nat} (hp : Sz n p) (hq : Sz n q) (hn : n ≤ 4000) : φ_is_less_by [Sh p, Sh q] = .rt (.dat (.bl (decide (p < q)))) := by
  show runD 2 f_is_less_by _ = _
  have e1 := hp.1.mulOk hq.2 (by omega)
  have e2 := hq.1.mulOk hp.2 (by omega)
  unfold runD f_is_less_by
  unfold Sh at *
  simp [oMul_ok e1, oMul_ok e2, -mulOk, Rat.lt_iff]
theorem m_sum_by {n M : Nat} (hn : n ≤ 4000) (hM : M < 2 ^ n) (h0 : 0 < M) {qs : List Rat} (hs : Su M qs 0) : φ_sum_by [.lst (qs.map Sh)] = .rt (.dat (Sh (qsum qs))) := by
  show runD 3 f_sum_by _ = _
  unfold runD f_sum_by
  have key := for_fold (vs := [0, 2]) (b := bName 2) (body := fSet 1 (fSD (fFz (fCallD φ_plus_by (fCons (fVar 1) (fCons (fVar 2) fNil)))))) Sh (fun a => [.no, .dat (Sh a), .no]) (fun a q => a + q) (Su M)
    (fun x xs a h => by
      have e := m_plus_by (h.acc.sz h0 hM) (h.tail.1.sz h0 hM) hn
      exact ⟨⟨_, _, rfl, .inl (by simp [e]; rfl), by simp⟩, h.tail.2⟩)
    qs 0 [.dat (.lst (qs.map Sh)), .dat (Sh 0), .no] (by simp) hs
  obtain ⟨key, _⟩ := key
  have z : (D.tup [.int 0, .int 1]) = Sh 0 := rfl
  rw [foldl_qsum, Rat.zero_add] at key
  simp [z, key]
theorem zSh : (D.tup [.int 0, .int 1]) = Sh 0 := rfl
theorem oSh : (D.tup [.int 1, .int 1]) = Sh 1 := rfl
theorem m_product_sum1 {n : Nat} (hn : n ≤ 4000) {c m : Rat} (hc : Sz n c) (hm : Sz n m) (hcm : Sz n (c * m)) : φ_product_sum_by [.lst [Sh c], .lst [Sh m]] = .rt (.dat (Sh (c * m))) := by
  show runD 5 f_product_sum_by _ = _
  unfold runD f_product_sum_by
  have e1 := m_times_by hc hm hn
  have z0 : Sz n 0 := by
    have h1 := hc.2
    have h2 := c.den_pos
    unfold Bt at h1
    rw [Int.natAbs_natCast] at h1
    have h3 : 1 < 2 ^ n := by omega
    exact ⟨Nat.pow_pos (by decide), h3⟩
  have e2 := m_plus_by z0 hcm hn
  rw [Rat.zero_add] at e2
  by_cases h1 : c = 0
  · subst h1
    unfold Sh
    simp [forGo, zpD]
  · by_cases h2 : m = 0
    · subst h2
      unfold Sh
      simp [forGo, zpD]
    · have h3 : c.num ≠ 0 := by simpa using h1
      have h4 : m.num ≠ 0 := by simpa using h2
      replace e2 : φ_plus_by [.tup [.int 0, .int 1], Sh (c * m)] = _ := e2
      unfold Sh at *
      simp [forGo, zpD, e1, e2, h3, h4]
end K44
namespace K44
open Dt PySem
/-! ### pieces -/
structure Stp where
  s : Nat
  g : Nat
  e : Nat
  c : Rat
abbrev Stp.d (t : Stp) : D := .tup [.int t.s, .int t.g, .int t.e, Sh t.c]
structure Pc where
  rooms : Nat
  signs : Nat
  steps : List Stp
  ins : List Nat
  outs : Nat
def nD (i : Nat) : D := .int i
abbrev Pc.d (p : Pc) : D := .tup [.int p.rooms, .int p.signs, .tup (p.steps.map Stp.d), .tup (p.ins.map nD), .int p.outs]
/-- the chances of the steps out of a room -/
def Pc.from (p : Pc) (r : Nat) : List Rat := (p.steps.filter fun t => t.s == r).map (·.c)
structure Stp.Ok (M : Nat) (p : Pc) (t : Stp) : Prop where
  s : t.s < p.rooms
  g : t.g ≤ p.signs
  e : t.e < p.rooms + p.outs
  c0 : 0 < t.c
  c : Pr M t.c
structure Pc.Ok (M : Nat) (p : Pc) : Prop where
  rooms : p.rooms ≤ 12
  signs : p.signs ≤ 3
  outs : p.outs ≤ 3
  nins : p.ins.length ≤ 3
  ins : ∀ i ∈ p.ins, i < p.rooms
  nsteps : p.steps.length ≤ 40
  steps : ∀ t ∈ p.steps, t.Ok M p
  sum : ∀ r, r < p.rooms → qsum (p.from r) ≤ 1
theorem m_is_tuple_of {ds : List D} (a b : Int) : φ_is_tuple_of [.tup ds, .int a, .int b] = .rt (.dat (.bl (decide (a ≤ ds.length) && decide ((ds.length : Int) ≤ b)))) := by
  show runD 3 f_is_tuple_of _ = _
  unfold runD f_is_tuple_of
  by_cases h : a ≤ ds.length <;> simp [h]
theorem m_is_small_share {M : Nat} {q : Rat} (h : Pr M q) (h0 : 0 < M) (hM : M ≤ 10 ^ 12) : φ_is_small_share [Sh q] = .rt (.dat (.bl true)) := by
  have e1 : φ_is_share [Sh q] = .rt (.dat (.bl true)) := by
    show runD 1 f_is_share _ = _
    have hr : Int.gcd q.num q.den = 1 := q.reduced
    have hd := q.den_pos
    unfold runD f_is_share Sh
    have hd' : ¬ ((q.den : Int) < 1) := by omega
    simp [m_is_tuple_of, m_common_factor, hr, hd']
  show runD 1 f_is_small_share _ = _
  have hd : q.den ≤ M := Nat.le_of_dvd h0 h.ds.den
  have h1 : 0 ≤ q.num := Rat.num_nonneg.mpr h.lo
  have h2 := (Rat.le_iff _ _).mp h.hi
  simp only [Rat.num_ofNat, Rat.den_ofNat] at h2
  unfold runD f_is_small_share Sh
  unfold Sh at e1
  have h3 : ¬ (q.num < 0) := by omega
  have h4 : q.num ≤ 1000000000000 := by omega
  have h5 : (q.den : Int) ≤ 1000000000000 := by omega
  simp [e1, h3, h4, h5]
theorem m_is_step {M : Nat} {p : Pc} {t : Stp} (h : t.Ok M p) (h0 : 0 < M) (hM : M ≤ 10 ^ 12) : φ_is_step [t.d, .int p.rooms, .int p.signs, .int p.outs] = .rt (.dat (.bl true)) := by
  show runD 4 f_is_step _ = _
  have e1 := m_is_small_share h.c h0 hM
  have h1 := h.s
  have h2 := h.g
  have h3 := h.e
  have h4 : 0 < t.c.num := by have := (Rat.lt_iff _ _).mp h.c0; simpa using this
  have h5 := (Rat.le_iff _ _).mp h.c.hi
  simp only [Rat.num_ofNat, Rat.den_ofNat] at h5
  unfold runD f_is_step Stp.d
  unfold Sh at *
  have i1 : (t.s : Int) ≤ (p.rooms : Int) - 1 := by omega
  have i2 : (t.g : Int) ≤ (p.signs : Int) := by omega
  have i3 : (t.e : Int) ≤ (p.rooms : Int) + p.outs - 1 := by omega
  have h5' : t.c.num ≤ t.c.den := by omega
  simp [m_is_tuple_of, m_is_among_int, e1, i1, i2, i3, h4, h5']
theorem y_among {i a b : Int} (h1 : a ≤ i) (h2 : i ≤ b) : φ_is_among [.int i, .int a, .int b] = .rt (.dat (.bl true)) := by
  rw [m_is_among_int]
  simp [h1, h2]
theorem y_tuple {ds : List D} {a b : Int} (h1 : a ≤ ds.length) (h2 : (ds.length : Int) ≤ b) : φ_is_tuple_of [.tup ds, .int a, .int b] = .rt (.dat (.bl true)) := by
  rw [m_is_tuple_of]
  simp [h1, h2]
theorem y_step {p : Pc} {t : Stp} : ∀ M, t.Ok M p → 0 < M → M ≤ 10 ^ 12 → φ_is_step [t.d, .int p.rooms, .int p.signs, .int p.outs] = .rt (.dat (.bl true)) := fun M h h0 hM => m_is_step h h0 hM
theorem lc_from {pd sd : D} (x : Nat) (ts : List Stp) : lcGo [10] (bName 10) (fLook2 oEq (fVal (fIx (fAt 10) (fC (.int 0)))) (fAt 9)) (fIx (fAt 10) (fC (.int 3))) (ts.map Stp.d) [] [.dat pd, .no, .no, .dat sd, .no, .no, .no, .no, .no, .dat (.int x), .no] =
    some (((ts.filter fun t => t.s == x).map (·.c)).map Sh, [.dat pd, .no, .no, .dat sd, .no, .no, .no, .no, .no, .dat (.int x), .no]) := by
  rw [lc_map Stp.d (fun t => t.s == x) (fun t => Sh t.c) ts [] (fun t _ => ⟨_, _, by simp; rfl, by unfold Stp.d; simp <;> rfl, fun _ => by simp, fun _ => ⟨_, by simp; rfl, by simp⟩⟩)]
  simp
theorem m_need_piece {M : Nat} {p : Pc} (h : p.Ok M) (h0 : 0 < M) (hM : M ≤ 10 ^ 12) : φ_need_piece [p.d] = .rt (.dat p.d) := by
  show runD 11 f_need_piece _ = _
  have r1 := h.rooms
  have r2 := h.signs
  have r3 := h.outs
  have r4 : (p.ins.map nD).length ≤ 3 := by simpa using h.nins
  have r5 : (p.steps.map Stp.d).length ≤ 40 := by simpa using h.nsteps
  unfold runD f_need_piece Pc.d
  simp (disch := first | omega | (simp; done) | (simp; omega)) [y_tuple, y_among, forGo, enD_map, -List.length_map]
  rw [for_same']
  rotate_left
  · intro x hx
    have hi := h.ins x.1 (List.fst_mem_of_mem_zipIdx hx)
    exact ⟨_, _, by simp; rfl, .inl (by simp (disch := first | omega | (simp; done) | omega) [y_among, nD]; rfl), by simp⟩
  simp (disch := first | omega | (simp; done) | (simp; omega)) [y_tuple, enD_map, -List.length_map]
  rw [for_same']
  rotate_left
  · intro x hx
    have hi := h.steps x.1 (List.fst_mem_of_mem_zipIdx hx)
    exact ⟨_, _, by simp; rfl, .inl (by simp [y_step M hi h0 hM] <;> rfl), by simp⟩
  simp (disch := first | omega | (simp; done) | omega) [lim, if_pos]
  rw [for_same']
  rotate_left
  · intro x hx
    have hx := List.mem_range.mp hx
    have hsu : Su M (p.from x) 0 := ⟨fun q hq => by
      obtain ⟨t, ht, rfl⟩ := List.mem_map.mp hq
      exact (h.steps t (List.mem_filter.mp ht).1).c.ds, fun q hq => by
      obtain ⟨t, ht, rfl⟩ := List.mem_map.mp hq
      exact (h.steps t (List.mem_filter.mp ht).1).c.lo, .zero, by rw [Rat.zero_add]; exact h.sum x hx⟩
    have e1 := m_sum_by (n := 40) (by decide) (Nat.lt_of_le_of_lt hM (by decide)) h0 hsu
    have hp : Pr M (qsum (p.from x)) := by have := hsu.pr; rwa [Rat.zero_add] at this
    have e2 := m_is_less_by (n := 40) (p := 1) (q := qsum (p.from x)) (Sz.one (by decide)) (hp.sz h0 (Nat.lt_of_le_of_lt hM (by decide))) (by decide)
    have e3 : decide (1 < qsum (p.from x)) = false := decide_eq_false (Rat.not_lt.mpr hp.hi)
    rw [e3] at e2
    unfold Pc.from at e1 e2
    exact ⟨_, _, by simp; rfl, .inl (by simp [lc_from, oSh, e1, e2, -List.map_map] <;> rfl), by simp⟩
  simp
theorem m_need_begin {p : Pc} {r : Nat} (h : r < p.rooms) : φ_need_begin_room [p.d, .int r] = .rt (.dat (.int r)) := by
  show runD 2 f_need_begin_room _ = _
  unfold runD f_need_begin_room Pc.d
  simp (disch := first | omega | (simp; done) | omega) [y_among]
theorem Pc.Ok.from_le {M : Nat} {p : Pc} (h : p.Ok M) (r : Nat) : qsum (p.from r) ≤ 1 := by
  by_cases hr : r < p.rooms
  · exact h.sum r hr
  · have : p.from r = [] := by
      unfold Pc.from
      rw [List.filter_eq_nil_iff.mpr fun t ht => ?_]
      · rfl
      · have := (h.steps t ht).s
        simp
        omega
    rw [this]
    decide
def zz : Nat → Nat → Rat := fun _ _ => 0
def addA (A : Nat → Nat → Rat) (t : Stp) : Nat → Nat → Rat := fun k => if k = t.s then (fun j => if j = t.e then A t.s t.e + t.c else A t.s j) else A k
/-- the steps from i to j -/
def both (i j : Nat) (t : Stp) : Bool := t.s == i && t.e == j
def Pc.mv (p : Pc) (i j : Nat) : Rat := qsum ((p.steps.filter (both i j)).map (·.c))
theorem addA_at {A : Nat → Nat → Rat} {t : Stp} {i j : Nat} : addA A t i j = if both i j t = true then A i j + t.c else A i j := by
  unfold addA both
  by_cases h1 : t.s = i
  · subst h1
    by_cases h2 : t.e = j
    · subst h2; simp
    · have : ¬ j = t.e := fun z => h2 z.symm
      simp [h2, this]
  · have : ¬ i = t.s := fun z => h1 z.symm
    simp [h1, this]
theorem foldl_addA : ∀ {ts : List Stp} {A : Nat → Nat → Rat} {i j : Nat}, ts.foldl addA A i j = A i j + qsum ((ts.filter (both i j)).map (·.c))
  | [], A, i, j => by simp [Rat.add_zero]
  | t :: ts, A, i, j => by
    rw [List.foldl_cons, foldl_addA, addA_at]
    by_cases h : both i j t = true
    · rw [if_pos h, List.filter_cons_of_pos h]
      simp [Rat.add_assoc]
    · rw [if_neg h, List.filter_cons_of_neg h]
theorem Pc.Ok.su {M : Nat} {p : Pc} (h : p.Ok M) (i j : Nat) : Su M ((p.steps.filter (both i j)).map (·.c)) 0 := ⟨fun q hq => by
      obtain ⟨t, ht, rfl⟩ := List.mem_map.mp hq
      exact (h.steps t (List.mem_filter.mp ht).1).c.ds, fun q hq => by
      obtain ⟨t, ht, rfl⟩ := List.mem_map.mp hq
      exact (h.steps t (List.mem_filter.mp ht).1).c.lo, .zero, by
      rw [Rat.zero_add]
      refine Rat.le_trans (qsum_filter_le (Q := fun t : Stp => t.s == i) (fun t ht => (h.steps t ht).c.lo) fun t _ ht => ?_) (h.from_le i)
      unfold both at ht
      simp at ht
      simp [ht.1]⟩
theorem m_moves_by {M : Nat} {p : Pc} (h : p.Ok M) (h0 : 0 < M) (hM : M ≤ 10 ^ 12) : φ_moves_by [p.d] = .rt (.dat (.lst ((mD p.rooms (p.rooms + p.outs) p.mv).map .lst))) := by
  show runD 7 f_moves_by _ = _
  have r1 := h.rooms
  have r3 := h.outs
  have hl : lmGo [2] (bName 2) fYes (fRep (fVal (fFr (fLst (fCons (fC (.tup [.int 0, .int 1])) fNil)))) (fBin oAdd (fIx (fAt 0) (fC (.int 0))) (fIx (fAt 0) (fC (.int 4))))) ((List.range p.rooms).map fun i => .int (i : Nat)) [] [.dat p.d, .no, .no, .no, .no, .no, .no] =
      some (mD p.rooms (p.rooms + p.outs) zz, [.dat p.d, .no, .no, .no, .no, .no, .no]) := by
    rw [lm_map (fun i : Nat => .int i) (fun _ => rowD (p.rooms + p.outs) (zz 0)) _ _ (fun x _ => ⟨_, _, by simp; rfl, by simp (disch := first | omega | (simp; done) | omega) [lim, if_pos]; exact ⟨rep_row, rfl⟩, by simp⟩)]
    rfl
  have key := for_fold (vs := [0, 2, 3, 4, 5, 6]) (b := bTup 4 (bsCons (bName 3) (bsCons (bName 4) (bsCons (bName 5) (bsCons (bName 6) bsNil))))) (body := fAsg (fFz (fCallD φ_plus_by (fCons (fIxM 1 (fVar 3) 5) (fCons (fVar 6) fNil)))) (bSubM 1 (fVar 3) 5))
    Stp.d (fun A => [.no, .om (mD p.rooms (p.rooms + p.outs) A), .no, .no, .no, .no, .no]) addA (fun ts A => (∀ t ∈ ts, t.Ok M p) ∧ ∀ i j, Su M ((ts.filter (both i j)).map (·.c)) (A i j))
    (fun t ts A ⟨g1, g2⟩ => by
      have ht := g1 t (List.mem_cons_self ..)
      have g3 := g2 t.s t.e
      rw [List.filter_cons_of_pos (by simp [both])] at g3
      have e1 := m_plus_by (n := 40) (g3.acc.sz h0 (Nat.lt_of_le_of_lt hM (by decide))) (ht.c.sz h0 (Nat.lt_of_le_of_lt hM (by decide))) (by decide)
      refine ⟨⟨_, _, by simp; rfl, .inl (by simp [mD_get ht.s, rowD_get ht.e, ht.s, ht.e, e1, rowD_set, mD_set] <;> rfl), by simp; rfl⟩, fun x hx => g1 x (List.mem_cons_of_mem t hx), fun i j => ?_⟩
      have g4 := g2 i j
      rw [addA_at]
      by_cases c : both i j t = true
      · rw [List.filter_cons_of_pos c] at g4
        rw [if_pos c]
        exact g4.tail.2
      · rw [List.filter_cons_of_neg c] at g4
        rw [if_neg c]
        exact g4)
    p.steps zz [.dat p.d, .om (mD p.rooms (p.rooms + p.outs) zz), .no, .no, .no, .no, .no] (by simp) ⟨h.steps, fun i j => h.su i j⟩
  obtain ⟨key, _⟩ := key
  have e : p.steps.foldl addA zz = p.mv := by
    funext i j
    rw [foldl_addA]
    exact Rat.zero_add _
  rw [e] at key
  unfold runD f_moves_by
  simp (disch := first | omega | (simp; done) | omega) [hl, lim, if_pos, key]
end K44
namespace K44
open Dt PySem
theorem mv_rows {i N : Nat} : ∀ {ts : List Stp}, (∀ t ∈ ts, t.e < N) → (rs N fun e => qsum ((ts.filter (both i e)).map (·.c))) = qsum ((ts.filter fun t => t.s == i).map (·.c))
  | [], _ => by simp [rs_zero]
  | t :: ts, h => by
    have ih := mv_rows (i := i) (N := N) (ts := ts) fun x hx => h x (List.mem_cons_of_mem t hx)
    have ht := h t (List.mem_cons_self ..)
    by_cases c : t.s = i
    · have e : ∀ e, qsum (((t :: ts).filter (both i e)).map (·.c)) = (if e = t.e then t.c else 0) + qsum ((ts.filter (both i e)).map (·.c)) := fun e => by
        by_cases q : t.e = e
        · rw [List.filter_cons_of_pos (by simp [both, c, q])]
          simp [q]
        · have q' : ¬ e = t.e := fun z => q z.symm
          rw [List.filter_cons_of_neg (by simp [both, c, q])]
          simp [q', Rat.zero_add]
      rw [rs_congr fun e' _ => e e', rs_add, ih, rs_one ht fun j _ ne => by simp [ne], List.filter_cons_of_pos (by simp [c])]
      simp
    · rw [List.filter_cons_of_neg (by simp [c]), ← ih]
      exact rs_congr fun e _ => by rw [List.filter_cons_of_neg (by simp [both, c])]
theorem Pc.Ok.mat {M : Nat} {p : Pc} (h : p.Ok M) : Mat M p.rooms (p.rooms + p.outs) p.mv where
  ds := fun i j _ _ => by
    have := (h.su i j).pr.ds
    rwa [Rat.zero_add] at this
  lo := fun i j _ _ => qsum_nonneg (h.su i j).lo
  hi := fun i hi => by
    unfold Pc.mv
    rw [mv_rows fun t ht => (h.steps t ht).e]
    exact h.sum i hi
def Pc.ch (p : Pc) (r n : Nat) : Nat → Rat := it p.rooms p.mv n (dl r)
/-- later behind s rooms -/
def lt (R : Nat) (A : Nat → Nat → Rat) (h : Nat → Rat) (n : Nat) : Nat → Rat := fun e => (if e < R then 0 else h e) + rs n fun s => h s * A s e
theorem lt_succ {R : Nat} {A : Nat → Nat → Rat} {h : Nat → Rat} {n : Nat} {e : Nat} : lt R A h (n + 1) e = lt R A h n e + h n * A n e := by
  unfold lt
  show _ + (rs n _ + h n * A n e) = _
  rw [Rat.add_assoc]
theorem lt_zero {R : Nat} {A : Nat → Nat → Rat} {h : Nat → Rat} : lt R A h 0 = fun e => if e < R then 0 else h e := by
  funext e
  unfold lt
  show _ + (0 : Rat) = _
  rw [Rat.add_zero]
theorem lt_succ' {R : Nat} {A : Nat → Nat → Rat} {h : Nat → Rat} {n : Nat} : lt R A h (n + 1) = fun e => lt R A h n e + h n * A n e := by
  funext e
  exact lt_succ
theorem lt_pr {M K R O n : Nat} {A : Nat → Nat → Rat} {h : Nat → Rat} (a : Mat M R (R + O) A) (v : Vec K (R + O) h) : ∀ {d : Nat}, n + d = R → ∀ {j : Nat}, j < R + O → Pr (K * M) (lt R A h n j)
  | 0, hd, j, hj => by
    obtain rfl : n = R := hd
    exact (nx_vec a v).pr hj
  | d + 1, hd, j, hj => by
    have h1 := lt_pr (n := n + 1) a v (d := d) (by omega) hj
    have h2 : 0 ≤ h n * A n j := Rat.mul_nonneg (v.lo n (by omega)) (a.lo n j (by omega) hj)
    have h3 := h1.hi
    rw [lt_succ] at h3
    refine ⟨?_, ?_, by grind⟩
    · refine Ds.add ?_ (Ds.rs fun i hi => (v.ds i (by omega)).mul (a.ds i j (by omega) hj))
      split
      · exact .zero
      · exact (v.ds j hj).up (Nat.dvd_mul_right ..)
    · have h4 : 0 ≤ rs n fun s => h s * A s j := rs_nonneg fun i hi => Rat.mul_nonneg (v.lo i (by omega)) (a.lo i j (by omega) hj)
      have h5 : (0 : Rat) ≤ if j < R then 0 else h j := by
        split
        · exact Rat.le_refl
        · exact v.lo j hj
      unfold lt
      grind
theorem lc_later {x0 x3 : D} {N n : Nat} {l a : Nat → Rat} {c : Rat} (hn : n ≤ 4000) (hc : Sz n c) (hl : ∀ j, j < N → Sz n (l j)) (ha : ∀ j, j < N → Sz n (a j)) (hca : ∀ j, j < N → Sz n (c * a j)) :
    lcGo [10, 11] (bTup 2 (bsCons (bName 10) (bsCons (bName 11) bsNil))) fYes (fFz (fCallD φ_plus_by (fCons (fVar 10) (fCons (fFz (fCallD φ_product_sum_by (fCons (fFr (fLst (fCons (fVar 8) fNil))) (fCons (fFr (fLst (fCons (fVar 11) fNil))) fNil)))) fNil))))
      (zpD (rowD N l) (rowD N a)) [] [.dat x0, .no, .no, .dat x3, .no, .no, .no, .dat (.lst (rowD N l)), .dat (Sh c), .dat (.lst (rowD N a)), .no, .no] =
    some (rowD N fun j => l j + c * a j, [.dat x0, .no, .no, .dat x3, .no, .no, .no, .dat (.lst (rowD N l)), .dat (Sh c), .dat (.lst (rowD N a)), .no, .no]) := by
  rw [zp_row, lc_all (fun j => .tup [Sh (l j), Sh (a j)]) (fun j => Sh (l j + c * a j)) (List.range N) [] fun j hj => ?_]
  · rfl
  · have hj := List.mem_range.mp hj
    have e1 := m_product_sum1 hn hc (ha j hj) (hca j hj)
    have e2 := m_plus_by (hl j hj) (hca j hj) hn
    exact ⟨_, _, by simp; rfl, by simp [e1, e2] <;> rfl, by simp⟩
theorem m_chances_behind {M r many : Nat} {p : Pc} (h : p.Ok M) (h0 : 0 < M) (hM : M ≤ 10 ^ 12) (hr : r < p.rooms) (hm : many ≤ 200) (hb : M ^ (many + 1) < 2 ^ 4000) : φ_chances_behind [p.d, .int r, .int many] = .rt (.dat (.tup (rowD (p.rooms + p.outs) (p.ch r many)))) := by
  show runD 12 f_chances_behind _ = _
  have r1 := h.rooms
  have r3 := h.outs
  have e1 := m_need_piece h h0 hM
  have e2 := m_need_begin hr
  have e3 := m_moves_by h h0 hM
  have hmat := h.mat
  -- the beginning
  have hl : lcGo [5] (bName 5) fYes (fIf (fLook2 oEq (fAt 5) (fAt 1)) (fC (.tup [.int 1, .int 1])) (fC (.tup [.int 0, .int 1]))) ((List.range (p.rooms + p.outs)).map fun i => .int (i : Nat)) [] [.dat p.d, .dat (.int r), .dat (.int many), .dat (.lst ((mD p.rooms (p.rooms + p.outs) p.mv).map .lst)), .no, .no, .no, .no, .no, .no, .no, .no] =
      some (rowD (p.rooms + p.outs) (dl r), [.dat p.d, .dat (.int r), .dat (.int many), .dat (.lst ((mD p.rooms (p.rooms + p.outs) p.mv).map .lst)), .no, .no, .no, .no, .no, .no, .no, .no]) := by
    rw [lc_all (fun i : Nat => .int i) (fun j => Sh (dl r j)) (List.range (p.rooms + p.outs)) [] fun j hj => ?_]
    · rfl
    · by_cases c : j = r
      · exact ⟨_, _, by simp; rfl, by simp [c, dl] <;> rfl, by simp⟩
      · exact ⟨_, _, by simp; rfl, by simp [c, dl] <;> rfl, by simp⟩
  unfold runD f_chances_behind
  simp (disch := first | omega | (simp; done) | omega) [e1, e2, e3, hl, lim, if_pos, y_among]
  rw [for_range (fun k => [.dat p.d, .no, .no, .dat (.lst ((mD p.rooms (p.rooms + p.outs) p.mv).map .lst)), .dat (.lst (rowD (p.rooms + p.outs) (p.ch r k))), .no, .no, .no, .no, .no, .no, .no]) (by simp; rfl)]
  rotate_left
  · intro k hk
    have hv : Vec (M ^ k) (p.rooms + p.outs) (p.ch r k) := it_vec hmat (by omega) k
    have hk1 : M ^ k * M < 2 ^ 4000 := by
      rw [← Nat.pow_succ]
      exact Nat.lt_of_le_of_lt (Nat.pow_le_pow_right h0 (by omega)) hb
    refine turn_nx (ρ3 := ?w) (by simp; rfl) ?b1 ?b2
    case b1 =>
      simp (disch := first | omega | (simp; done) | omega) [lim, if_pos, rowD_take, zp_rows, rep_row, rowD_drop]
      rw [for_range (fun s => [.dat p.d, .no, .no, .dat (.lst ((mD p.rooms (p.rooms + p.outs) p.mv).map .lst)), .no, .no, .no, .dat (.lst (rowD (p.rooms + p.outs) (lt p.rooms p.mv (p.ch r k) s))), .no, .no, .no, .no]) (by simp [lt_zero])]
      rotate_left
      · intro s hs
        have b0 : M ^ k < 2 ^ 4000 := Nat.lt_of_le_of_lt (Nat.le_mul_of_pos_right _ h0) hk1
        have c1 : Sz 4000 (p.ch r k s) := (hv.pr (by omega)).sz (Nat.pow_pos h0) b0
        have c2 : ∀ j, j < p.rooms + p.outs → Sz 4000 (p.mv s j) := fun j hj => (((hmat.row hs).pr hj).sz (n := 40) h0 (Nat.lt_of_le_of_lt hM (by decide))).mono (by decide)
        have c3 : ∀ j, j < p.rooms + p.outs → Sz 4000 (p.ch r k s * p.mv s j) := fun j hj => ((hv.pr (by omega)).mul ((hmat.row hs).pr hj)).sz (Nat.mul_pos (Nat.pow_pos h0) h0) hk1
        have c4 : ∀ j, j < p.rooms + p.outs → Sz 4000 (lt p.rooms p.mv (p.ch r k) s j) := fun j hj => (lt_pr hmat hv (d := p.rooms - s) (by omega) hj).sz (Nat.mul_pos (Nat.pow_pos h0) h0) hk1
        have lc := lc_later (x0 := p.d) (x3 := .lst ((mD p.rooms (p.rooms + p.outs) p.mv).map .lst)) (Nat.le_refl 4000) c1 c4 c2 c3
        by_cases z : p.ch r k s = 0
        · refine turn_nx (ρ3 := ?w2) (by simp; rfl) ?d1 ?d2
          case d1 =>
            have z' : (p.ch r k s).num = 0 := by rw [z]; rfl
            simp [z'] <;> rfl
          case d2 =>
            simp [lt_succ', z, Rat.add_zero]
        · have z' : ¬ (p.ch r k s).num = 0 := by simpa using z
          refine turn_nx (ρ3 := ?w3) (by simp; rfl) ?d1 ?d2
          case d1 =>
            simp [z', lc]
            rfl
          case d2 =>
            simp [lt_succ']
      simp
      rfl
    case b2 =>
      simp
      rfl
  simp
end K44
namespace K44
open Dt PySem
/-! ### the law's own words -/
theorem l_factor (a b : Int) : φ__law_factor [.int a, .int b] = .rt (.dat (.int (Int.gcd a b))) := by
  show runD 2 f__law_factor _ = _
  have key := wh_rel (vs := []) (c := fLook2 oNe (fAt 1) (fVal (fC (.int 0)))) (body := fPar2 0 1 (fsCons (fSD (fVar 1)) (fsCons (fSD (fBin oMod (fUn oInt (fVar 0)) (fVar 1))) fsNil)))
    (fun n ρ => ∃ x y : Int, ρ = [.dat (.int x), .dat (.int y)] ∧ y.natAbs = n ∧ Int.gcd x y = Int.gcd a b) (fun ρ => ∃ x : Int, ρ = [.dat (.int x), .dat (.int 0)] ∧ x.natAbs = Int.gcd a b)
    (fun n ρ ⟨x, y, e, hn, hg⟩ => by
      subst e
      by_cases h : y = 0
      · subst h
        exact .inl ⟨_, by simp, x, rfl, by rw [← hg]; simp⟩
      · refine .inr ⟨_, _, _, by simp [h]; rfl, .inl (by simp [oMod_ok h] <;> rfl), ?_, y, x.fmod y, rfl, rfl, by rw [gcd_fmod, hg]⟩
        rw [← hn]
        exact fmod_lt h)
    b.natAbs [.dat (.int a), .dat (.int b)] ⟨a, b, rfl, rfl, rfl⟩
  obtain ⟨ρ', e, x, e2, hx⟩ := key
  subst e2
  unfold runD f__law_factor
  simp [e]
  rw [← hx]
  split <;> omega
theorem l_share {a b : Int} {n : Nat} (hb : b ≠ 0) (hB : Bt n b) (hn : n ≤ 8999) : φ__law_share [.int a, .int b] = .rt (.dat (Sh (Rat.divInt a b))) := by
  show runD 3 f__law_share _ = _
  have g0 : (Int.gcd a b : Int) ≠ 0 := fun z => hb (Int.gcd_eq_zero_iff.mp (Int.ofNat.inj z)).2
  have gB : Bt n (Int.gcd a b) := Bt.gcd hB hb
  have ok : ∀ x, divOk x (Int.gcd a b) = true := fun x => gB.divOk (by omega) g0
  have ok' : ∀ x, divOk x (-(Int.gcd a b : Int)) = true := fun x => gB.neg.divOk (by omega) (by omega)
  unfold runD f__law_share Sh
  rw [Rat.num_divInt, Rat.den_divInt, if_neg hb]
  have da : (Int.gcd a b : Int) ∣ a := Int.gcd_dvd_left ..
  have db : (Int.gcd a b : Int) ∣ b := Int.gcd_dvd_right ..
  by_cases c : b < 0
  · simp [l_factor, c, oDiv_ok (ok' _), -divOk]
    rw [Int.gcd_comm b a, Int.sign_eq_neg_one_of_neg c, Int.fdiv_eq_ediv_of_dvd (Int.neg_dvd.mpr da), Int.fdiv_eq_ediv_of_dvd (Int.neg_dvd.mpr db), Int.ediv_neg, Int.ediv_neg, Int.neg_one_mul, Int.neg_ediv_of_dvd da]
    refine ⟨rfl, ?_⟩
    rw [← Int.neg_ediv_of_dvd db]
    congr 1
    omega
  · simp [l_factor, c, oDiv_ok (ok _), -divOk]
    rw [Int.gcd_comm b a, Int.sign_eq_one_of_pos (by omega), Int.fdiv_eq_ediv_of_dvd da, Int.fdiv_eq_ediv_of_dvd db, Int.one_mul]
    refine ⟨rfl, ?_⟩
    congr 1
    omega
theorem l_plus {p q : Rat} {n : Nat} (hp : Sz n p) (hq : Sz n q) (hn : n ≤ 4000) : φ__law_plus [Sh p, Sh q] = .rt (.dat (Sh (p + q))) := by
  show runD 2 f__law_plus _ = _
  have h1 := l_share (a := p.num * q.den + q.num * p.den) (den00 p q) (hp.2.mul hq.2) (by omega)
  have e1 := hp.1.mulOk hq.2 (by omega)
  have e2 := hq.1.mulOk hp.2 (by omega)
  have e3 := hp.2.mulOk hq.2 (by omega)
  rw [Rat.add_def', ← Rat.divInt_ofNat, Int.natCast_mul]
  unfold runD f__law_plus
  simp [oMul_ok e1, oMul_ok e2, oMul_ok e3, h1, -mulOk]
theorem l_times {p q : Rat} {n : Nat} (hp : Sz n p) (hq : Sz n q) (hn : n ≤ 4000) : φ__law_times [Sh p, Sh q] = .rt (.dat (Sh (p * q))) := by
  show runD 2 f__law_times _ = _
  have h1 := l_share (a := p.num * q.num) (den00 p q) (hp.2.mul hq.2) (by omega)
  have e1 := hp.1.mulOk hq.1 (by omega)
  have e3 := hp.2.mulOk hq.2 (by omega)
  rw [Rat.mul_def', ← Rat.divInt_ofNat, Int.natCast_mul]
  unfold runD f__law_times
  simp [oMul_ok e1, oMul_ok e3, h1, -mulOk]
theorem l_is_less {p q : Rat} {n : Nat} (hp : Sz n p) (hq : Sz n q) (hn : n ≤ 4000) : φ__law_is_less [Sh p, Sh q] = .rt (.dat (.bl (decide (p < q)))) := by
  show runD 2 f__law_is_less _ = _
  have e1 := hp.1.mulOk hq.2 (by omega)
  have e2 := hq.1.mulOk hp.2 (by omega)
  unfold runD f__law_is_less
  simp [oMul_ok e1, oMul_ok e2, -mulOk, Rat.lt_iff]
theorem l_sum {n M : Nat} (hn : n ≤ 4000) (hM : M < 2 ^ n) (h0 : 0 < M) {qs : List Rat} (hs : Su M qs 0) : φ__law_sum [.lst (qs.map Sh)] = .rt (.dat (Sh (qsum qs))) := by
  show runD 3 f__law_sum _ = _
  unfold runD f__law_sum
  have key := for_fold (vs := [0, 2]) (b := bName 2) (body := fSet 1 (fSD (fFz (fCallD φ__law_plus (fCons (fVar 1) (fCons (fVar 2) fNil)))))) Sh (fun a => [.no, .dat (Sh a), .no]) (fun a q => a + q) (Su M)
    (fun x xs a h => by
      have e := l_plus (h.acc.sz h0 hM) (h.tail.1.sz h0 hM) hn
      exact ⟨⟨_, _, rfl, .inl (by simp [e]; rfl), by simp⟩, h.tail.2⟩)
    qs 0 [.dat (.lst (qs.map Sh)), .dat (Sh 0), .no] (by simp) hs
  obtain ⟨key, _⟩ := key
  rw [foldl_qsum, Rat.zero_add] at key
  simp [zSh, key]
theorem lc_both {pd : D} {rows row : List D} (i j : Nat) (ts : List Stp) : lcGo [5] (bName 5) (fAnd (fLook2 oEq (fVal (fIx (fAt 5) (fC (.int 0)))) (fAt 2)) (fLook2 oEq (fVal (fIx (fAt 5) (fC (.int 2)))) (fAt 4))) (fIx (fAt 5) (fC (.int 3))) (ts.map Stp.d) [] [.dat pd, .ol rows, .dat (.int i), .ol row, .dat (.int j), .no] =
    some (((ts.filter (both i j)).map (·.c)).map Sh, [.dat pd, .ol rows, .dat (.int i), .ol row, .dat (.int j), .no]) := by
  rw [lc_map Stp.d (both i j) (fun t => Sh t.c) ts [] (fun t _ => by
    unfold both
    by_cases h : t.s = i
    · exact ⟨_, _, by simp; rfl, by simp [h] <;> rfl, fun _ => by simp, fun _ => ⟨_, by simp; rfl, by simp⟩⟩
    · exact ⟨_, _, by simp; rfl, by simp [h] <;> rfl, fun _ => by simp, fun _ => ⟨_, by simp; rfl, by simp⟩⟩)]
  simp
theorem l_moves {M : Nat} {p : Pc} (h : p.Ok M) (h0 : 0 < M) (hM : M ≤ 10 ^ 12) : φ__law_moves [p.d] = .rt (.dat (.lst ((mD p.rooms (p.rooms + p.outs) p.mv).map .lst))) := by
  show runD 6 f__law_moves _ = _
  have r1 := h.rooms
  have r3 := h.outs
  unfold runD f__law_moves
  simp (disch := first | omega | (simp; done) | omega) [lim, if_pos]
  rw [for_range (fun k => [.dat p.d, .ol ((mD k (p.rooms + p.outs) p.mv).map .lst), .no, .no, .no, .no]) (by simp; rfl)]
  rotate_left
  · intro i hi
    refine turn_nx (ρ3 := ?w) (by simp; rfl) ?b1 ?b2
    case b1 =>
      simp (disch := first | omega | (simp; done) | omega) [lim, if_pos]
      rw [for_range (fun k => [.dat p.d, .ol ((mD i (p.rooms + p.outs) p.mv).map .lst), .dat (.int i), .ol (rowD k (p.mv i)), .no, .no]) (by simp; rfl)]
      rotate_left
      · intro j hj
        have e1 := l_sum (n := 40) (by decide) (Nat.lt_of_le_of_lt hM (by decide)) h0 (h.su i j)
        refine turn_nx (ρ3 := ?w1) (by simp; rfl) ?d1 ?d2
        case d1 =>
          simp (disch := first | omega | (simp; done) | omega) [lim, if_pos, lc_both, e1, -List.map_map]
          rfl
        case d2 =>
          simp [← rowD_succ]
          exact ⟨rfl, rfl⟩
      simp (disch := first | omega | (simp; done) | omega) [lim, if_pos]
      rfl
    case b2 =>
      simp [← mD_succ]
  simp
theorem lc_lawlater {R N n s : Nat} {l h : Nat → Rat} {A : Nat → Nat → Rat} (hs : s < R) (hsN : s < N) (hn : n ≤ 4000) (hc : Sz n (h s)) (hl : ∀ j, j < N → Sz n (l j)) (ha : ∀ j, j < N → Sz n (A s j)) (hca : ∀ j, j < N → Sz n (h s * A s j)) :
    lcGo [8, 9] (bTup 2 (bsCons (bName 8) (bsCons (bName 9) bsNil))) fYes (fFz (fCallD φ__law_plus (fCons (fVar 9) (fCons (fFz (fCallD φ__law_times (fCons (fIx (fAt 3) (fVar 7)) (fCons (fIx (fVal (fIx (fAt 0) (fVar 7))) (fVar 8)) fNil)))) fNil))))
      (enD (rowD N l)) [] [.dat (.lst ((mD R N A).map .lst)), .no, .no, .dat (.lst (rowD N h)), .no, .no, .dat (.lst (rowD N l)), .dat (.int s), .no, .no] =
    some (rowD N fun j => l j + h s * A s j, [.dat (.lst ((mD R N A).map .lst)), .no, .no, .dat (.lst (rowD N h)), .no, .no, .dat (.lst (rowD N l)), .dat (.int s), .no, .no]) := by
  rw [en_row, lc_all (fun j => .tup [.int (j : Nat), Sh (l j)]) (fun j => Sh (l j + h s * A s j)) (List.range N) [] fun j hj => ?_]
  · rfl
  · have hj := List.mem_range.mp hj
    have e1 := l_times hc (ha j hj) hn
    have e2 := l_plus (hl j hj) (hca j hj) hn
    exact ⟨_, _, by simp; rfl, by simp [e1, e2, mD_get hs, rowD_get hj, rowD_get hsN] <;> rfl, by simp⟩
theorem l_behind {M r many : Nat} {p : Pc} (h : p.Ok M) (h0 : 0 < M) (hM : M ≤ 10 ^ 12) (hr : r < p.rooms) (hm : many ≤ 200) (hb : M ^ (many + 1) < 2 ^ 4000) :
    φ__law_behind [.lst ((mD p.rooms (p.rooms + p.outs) p.mv).map .lst), .int r, .int many] = .rt (.dat (.lst (rowD (p.rooms + p.outs) (p.ch r many)))) := by
  show runD 10 f__law_behind _ = _
  have r1 := h.rooms
  have r3 := h.outs
  have hmat := h.mat
  have hl : lcGo [4] (bName 4) fYes (fTup (fCons (fUn oInt (fBl (fLook2 oEq (fAt 4) (fAt 1)))) (fCons (fC (.int 1)) fNil))) ((List.range (p.rooms + p.outs)).map fun i => .int (i : Nat)) [] [.dat (.lst ((mD p.rooms (p.rooms + p.outs) p.mv).map .lst)), .dat (.int r), .dat (.int many), .no, .no, .no, .no, .no, .no, .no] =
      some (rowD (p.rooms + p.outs) (dl r), [.dat (.lst ((mD p.rooms (p.rooms + p.outs) p.mv).map .lst)), .dat (.int r), .dat (.int many), .no, .no, .no, .no, .no, .no, .no]) := by
    rw [lc_all (fun i : Nat => .int i) (fun j => Sh (dl r j)) (List.range (p.rooms + p.outs)) [] fun j hj => ?_]
    · rfl
    · by_cases c : j = r
      · exact ⟨_, _, by simp; rfl, by simp [c, dl] <;> rfl, by simp⟩
      · exact ⟨_, _, by simp; rfl, by simp [c, dl] <;> rfl, by simp⟩
  unfold runD f__law_behind
  simp (disch := first | omega | (simp; done) | omega) [hl, lim, if_pos, mD_get (show 0 < p.rooms by omega)]
  rw [for_range (fun k => [.dat (.lst ((mD p.rooms (p.rooms + p.outs) p.mv).map .lst)), .no, .no, .dat (.lst (rowD (p.rooms + p.outs) (p.ch r k))), .no, .no, .no, .no, .no, .no]) (by simp; rfl)]
  rotate_left
  · intro k hk
    have hv : Vec (M ^ k) (p.rooms + p.outs) (p.ch r k) := it_vec hmat (by omega) k
    have hk1 : M ^ k * M < 2 ^ 4000 := by
      rw [← Nat.pow_succ]
      exact Nat.lt_of_le_of_lt (Nat.pow_le_pow_right h0 (by omega)) hb
    refine turn_nx (ρ3 := ?w) (by simp; rfl) ?b1 ?b2
    case b1 =>
      simp (disch := first | omega | (simp; done) | omega) [lim, if_pos, rep_row, rowD_drop]
      rw [for_range (fun s => [.dat (.lst ((mD p.rooms (p.rooms + p.outs) p.mv).map .lst)), .no, .no, .dat (.lst (rowD (p.rooms + p.outs) (p.ch r k))), .no, .no, .dat (.lst (rowD (p.rooms + p.outs) (lt p.rooms p.mv (p.ch r k) s))), .no, .no, .no]) (by simp [lt_zero])]
      rotate_left
      · intro s hs
        have b0 : M ^ k < 2 ^ 4000 := Nat.lt_of_le_of_lt (Nat.le_mul_of_pos_right _ h0) hk1
        have c1 : Sz 4000 (p.ch r k s) := (hv.pr (by omega)).sz (Nat.pow_pos h0) b0
        have c2 : ∀ j, j < p.rooms + p.outs → Sz 4000 (p.mv s j) := fun j hj => (((hmat.row hs).pr hj).sz (n := 40) h0 (Nat.lt_of_le_of_lt hM (by decide))).mono (by decide)
        have c3 : ∀ j, j < p.rooms + p.outs → Sz 4000 (p.ch r k s * p.mv s j) := fun j hj => ((hv.pr (by omega)).mul ((hmat.row hs).pr hj)).sz (Nat.mul_pos (Nat.pow_pos h0) h0) hk1
        have c4 : ∀ j, j < p.rooms + p.outs → Sz 4000 (lt p.rooms p.mv (p.ch r k) s j) := fun j hj => (lt_pr hmat hv (d := p.rooms - s) (by omega) hj).sz (Nat.mul_pos (Nat.pow_pos h0) h0) hk1
        have lc := lc_lawlater (R := p.rooms) (h := p.ch r k) hs (show s < p.rooms + p.outs by omega) (Nat.le_refl 4000) c1 c4 c2 c3
        have g1 := rowD_get (f := p.ch r k) (show s < p.rooms + p.outs by omega)
        by_cases z : p.ch r k s = 0
        · refine turn_nx (ρ3 := ?w2) (by simp; rfl) ?d1 ?d2
          case d1 =>
            have z' : (p.ch r k s).num = 0 := by rw [z]; rfl
            simp [z', g1] <;> rfl
          case d2 =>
            simp [lt_succ', z, Rat.add_zero]
        · have z' : ¬ (p.ch r k s).num = 0 := by simpa using z
          refine turn_nx (ρ3 := ?w3) (by simp; rfl) ?d1 ?d2
          case d1 =>
            simp [z', lc, g1]
            rfl
          case d2 =>
            simp [lt_succ']
      simp
      rfl
    case b2 =>
      simp
      rfl
  simp
end K44
namespace K44
open Dt PySem
/-! ### rows of whole numbers -/
def gcds (xs : List Int) (a : Int) : Int := xs.foldl (fun a x => (Int.gcd a x : Int)) a
theorem gcds_dvd : ∀ {xs : List Int} {a : Int}, gcds xs a ∣ a ∧ ∀ x ∈ xs, gcds xs a ∣ x
  | [], a => ⟨Int.dvd_refl _, fun x hx => by cases hx⟩
  | x :: xs, a => by
    obtain ⟨h1, h2⟩ := gcds_dvd (xs := xs) (a := (Int.gcd a x : Int))
    refine ⟨Int.dvd_trans h1 (Int.gcd_dvd_left ..), fun y hy => ?_⟩
    rcases List.mem_cons.mp hy with rfl | hy
    · exact Int.dvd_trans h1 (Int.gcd_dvd_right ..)
    · exact h2 y hy
theorem gcds_zero : ∀ {xs : List Int}, (∀ x ∈ xs, x = 0) → gcds xs 0 = 0
  | [], _ => rfl
  | x :: xs, h => by
    have h1 := h x (List.mem_cons_self ..)
    subst h1
    exact gcds_zero (xs := xs) fun y hy => h y (List.mem_cons_of_mem _ hy)
theorem m_plain_row {n : Nat} {xs : List Int} (hn : n ≤ 8999) (hx : ∀ x ∈ xs, Bt n x) :
    ∃ g : Int → Int, φ_plain_row [.lst (xs.map .int)] = .rt (.dat (.lst (xs.map fun x => .int (g x)))) ∧ (∃ q : Rat, q ≠ 0 ∧ ∀ x ∈ xs, (g x : Rat) = q * (x : Rat)) ∧ ∀ x ∈ xs, (g x).natAbs ≤ x.natAbs := by
  have key := for_fold (vs := [2, 3]) (b := bName 2) (body := fSet 1 (fSD (fFz (fCallD φ_common_factor (fCons (fVar 1) (fCons (fVar 2) fNil)))))) D.int (fun a => [.dat (.lst (xs.map .int)), .dat (.int a), .no, .no]) (fun a x => (Int.gcd a x : Int)) (fun _ _ => True)
    (fun x ys a _ => ⟨turn_nx (by simp; rfl) (by simp [m_common_factor] <;> rfl) (by simp), trivial⟩)
    xs 0 [.dat (.lst (xs.map .int)), .dat (.int 0), .no, .no] (by simp) trivial
  obtain ⟨key, _⟩ := key
  change forGo _ _ _ _ _ = .nx [.dat (.lst (xs.map .int)), .dat (.int (gcds xs 0)), .no, .no] at key
  by_cases z : gcds xs 0 = 0
  · refine ⟨id, ?_, ⟨1, by decide, fun x _ => by rw [Rat.one_mul]; rfl⟩, fun x _ => Nat.le_refl _⟩
    show runD 4 f_plain_row _ = _
    unfold runD f_plain_row
    simp [key, z]
  · cases hf : xs.filter (fun x => x != 0) with
    | nil =>
      refine absurd (gcds_zero fun x hx => Classical.byContradiction fun h => ?_) z
      have : x ∈ xs.filter (fun x => x != 0) := List.mem_filter.mpr ⟨hx, by simpa using h⟩
      rw [hf] at this
      cases this
    | cons f fs =>
      have fm : f ∈ xs.filter (fun x => x != 0) := by rw [hf]; exact List.mem_cons_self ..
      obtain ⟨fx, f0⟩ := List.mem_filter.mp fm
      have f0 : f ≠ 0 := by simpa using f0
      have gd := (gcds_dvd (xs := xs) (a := 0)).2
      have gB : Bt n (gcds xs 0) := Nat.lt_of_le_of_lt (Nat.le_of_dvd (by omega) (Int.natAbs_dvd_natAbs.mpr (gd f fx))) (hx f fx)
      have ok : ∀ x, divOk x (gcds xs 0) = true := fun x => gB.divOk (by omega) z
      have l1 : lcGo [2] (bName 2) (fLook2 oNe (fAt 2) (fVal (fC (.int 0)))) (fVar 2) (xs.map .int) [] [.dat (.lst (xs.map .int)), .dat (.int (gcds xs 0)), .no, .no] = some ((f :: fs).map D.int, [.dat (.lst (xs.map .int)), .dat (.int (gcds xs 0)), .no, .no]) := by
        rw [lc_map D.int (fun x => x != 0) D.int xs [] (fun x _ => by
          have h1 : (x != 0) = !(x == 0) := rfl
          cases h : x == 0 with
          | true => exact ⟨_, _, by simp; rfl, by simp [h, h1] <;> rfl, fun _ => by simp, (fun q => by rw [h1, h] at q; cases q)⟩
          | false => exact ⟨_, _, by simp; rfl, by simp [h, h1] <;> rfl, (fun q => by rw [h1, h] at q; cases q), fun _ => ⟨_, by simp; rfl, by simp⟩⟩), hf]
        rfl
      have l2 : lcGo [2] (bName 2) fYes (fIf (fLook2 oGt (fAt 3) (fVal (fC (.int 0)))) (fBin oDiv (fVar 2) (fVar 1)) (fBin oDiv (fUn oNeg (fVar 2)) (fVar 1))) (xs.map .int) [] [.dat (.lst (xs.map .int)), .dat (.int (gcds xs 0)), .no, .dat (.int f)] =
          some (xs.map fun x => D.int ((if 0 < f then x else -x).fdiv (gcds xs 0)), [.dat (.lst (xs.map .int)), .dat (.int (gcds xs 0)), .no, .dat (.int f)]) := by
        rw [lc_all D.int (fun x => D.int ((if 0 < f then x else -x).fdiv (gcds xs 0))) xs [] fun x _ => ?_]
        · rfl
        · by_cases c : 0 < f
          · exact ⟨_, _, by simp; rfl, by simp [c, oDiv_ok (ok _), -divOk] <;> rfl, by simp⟩
          · exact ⟨_, _, by simp; rfl, by simp [c, oDiv_ok (ok _), -divOk] <;> rfl, by simp⟩
      have hd : ∀ x ∈ xs, (if 0 < f then x else -x).fdiv (gcds xs 0) * gcds xs 0 = if 0 < f then x else -x := fun x hx => by
        have d : gcds xs 0 ∣ if 0 < f then x else -x := by
          split
          · exact gd x hx
          · exact Int.dvd_neg.mpr (gd x hx)
        exact Int.fdiv_mul_cancel d
      have zr : (gcds xs 0 : Rat) ≠ 0 := by exact_mod_cast z
      refine ⟨fun x => (if 0 < f then x else -x).fdiv (gcds xs 0), ?_, ⟨(if 0 < f then 1 else -1) / (gcds xs 0 : Rat), ?_, fun x hx => ?_⟩, fun x hx => ?_⟩
      · show runD 4 f_plain_row _ = _
        unfold runD f_plain_row
        simp [key, z, l1, l2]
      · split <;> grind
      · have h1 := hd x hx
        have h2 : (((if 0 < f then x else -x).fdiv (gcds xs 0) : Int) : Rat) * (gcds xs 0 : Rat) = ((if 0 < f then x else -x : Int) : Rat) := by exact_mod_cast h1
        have h3 : ((if 0 < f then x else -x : Int) : Rat) = (if 0 < f then 1 else -1) * (x : Rat) := by
          split
          · rw [Rat.one_mul]
          · rw [Rat.intCast_neg]; grind
        rw [h3] at h2
        grind
      · have h1 := congrArg Int.natAbs (hd x hx)
        rw [Int.natAbs_mul] at h1
        have h2 : (if 0 < f then x else -x).natAbs = x.natAbs := by
          split
          · rfl
          · exact Int.natAbs_neg x
        rw [h2] at h1
        have h3 : 1 ≤ (gcds xs 0).natAbs := by omega
        calc _ = _ * 1 := (Nat.mul_one _).symm
          _ ≤ _ * (gcds xs 0).natAbs := Nat.mul_le_mul_left _ h3
          _ = _ := h1
end K44
namespace K44
open Dt
/-! ### pieces that go round -/
def ringStp (ord : Nat → Nat) (ahead : List Nat) (room : Nat) : List Stp := ahead.map fun e => ⟨ord room, 0, ord e, Rat.divInt 1 (ahead.length : Nat)⟩
def ringOf (ls : List (List Nat)) (k : Nat) : List Nat := ls.getD ((k + 1) % ls.length) []
def ring (ord : Nat → Nat) (ls : List (List Nat)) : List Stp := ls.zipIdx.flatMap fun p => p.1.flatMap (ringStp ord (ringOf ls p.2))
def outOf (r : Nat) (ts : List Stp) : Rat := qsum ((ts.filter fun t => t.s == r).map (·.c))
theorem outOf_flat {α : Type} {r : Nat} {f : α → List Stp} : ∀ {xs : List α}, outOf r (xs.flatMap f) = qsum (xs.map fun x => outOf r (f x))
  | [] => rfl
  | x :: xs => by
    have ih := outOf_flat (r := r) (f := f) (xs := xs)
    unfold outOf at *
    rw [List.flatMap_cons, List.filter_append, List.map_append, qsum_app, ih]
    rfl
theorem qsum_const {α : Type} {c : Rat} : ∀ {xs : List α}, qsum (xs.map fun _ => c) = (xs.length : Rat) * c
  | [] => by
    show (0 : Rat) = ((0 : Nat) : Rat) * c
    have : ((0 : Nat) : Rat) = 0 := rfl
    rw [this, Rat.zero_mul]
  | x :: xs => by
    rw [List.map_cons, qsum_cons, qsum_const, List.length_cons, Rat.natCast_add]
    grind
theorem inv_n {n : Nat} (h : n ≠ 0) : (n : Rat) * Rat.divInt 1 n = 1 := by
  have : (n : Rat) ≠ 0 := by exact_mod_cast h
  rw [Rat.divInt_eq_div]
  have e : ((n : Int) : Rat) = (n : Rat) := by exact_mod_cast rfl
  rw [e]
  grind
theorem outOf_stp {r room : Nat} {ord : Nat → Nat} {ahead : List Nat} (h : ahead ≠ []) : outOf r (ringStp ord ahead room) = if ord room = r then 1 else 0 := by
  unfold outOf ringStp
  by_cases c : ord room = r
  · rw [if_pos c, List.filter_eq_self.mpr fun t ht => ?_, List.map_map]
    · exact (qsum_const (xs := ahead) (c := Rat.divInt 1 (ahead.length : Nat))).trans (inv_n fun z => h (List.length_eq_zero_iff.mp z))
    · obtain ⟨e, _, rfl⟩ := List.mem_map.mp ht
      simp [c]
  · rw [if_neg c, List.filter_eq_nil_iff.mpr fun t ht => ?_]
    · rfl
    · obtain ⟨e, _, rfl⟩ := List.mem_map.mp ht
      simp [c]
theorem qsum_flat {g : Nat → Rat} : ∀ {ls : List (List Nat)}, qsum (ls.map fun l => qsum (l.map g)) = qsum (ls.flatten.map g)
  | [] => rfl
  | l :: ls => by
    rw [List.map_cons, qsum_cons, qsum_flat, List.flatten_cons, List.map_append, qsum_app]
theorem ringOf_mem {ls : List (List Nat)} {k : Nat} (h : ls ≠ []) : ringOf ls k ∈ ls := by
  have h1 : 0 < ls.length := List.length_pos_iff.mpr h
  have h2 := Nat.mod_lt (k + 1) h1
  unfold ringOf
  rw [List.getD_eq_getElem?_getD, List.getElem?_eq_getElem h2]
  exact List.getElem_mem h2
theorem outOf_ring {r : Nat} {ord : Nat → Nat} {ls : List (List Nat)} (h : ∀ l ∈ ls, l ≠ []) : outOf r (ring ord ls) = qsum (ls.flatten.map fun q => if ord q = r then 1 else 0) := by
  unfold ring
  rw [outOf_flat, ← qsum_flat]
  by_cases e : ls = []
  · subst e; rfl
  · have h1 : (ls.zipIdx.map fun x => outOf r (x.1.flatMap (ringStp ord (ringOf ls x.2)))) = ls.zipIdx.map fun x => qsum (x.1.map fun q => if ord q = r then (1 : Rat) else 0) := by
      refine List.map_congr_left fun x _ => ?_
      rw [outOf_flat]
      congr 1
      exact List.map_congr_left fun q _ => outOf_stp (h _ (ringOf_mem e))
    rw [h1]
    have h2 : (ls.zipIdx.map fun x => qsum (x.1.map fun q => if ord q = r then (1 : Rat) else 0)) = (ls.zipIdx.map Prod.fst).map fun l => qsum (l.map fun q => if ord q = r then (1 : Rat) else 0) := by
      rw [List.map_map]
      rfl
    rw [h2, List.zipIdx_map_fst]
theorem flat_len {α β : Type} {c : Nat} {f : α → List Stp} {g : α → List β} : ∀ {xs : List α}, (∀ x ∈ xs, (f x).length ≤ c * (g x).length) → (xs.flatMap f).length ≤ c * (xs.flatMap g).length
  | [], _ => Nat.zero_le _
  | x :: xs, h => by
    have h1 := h x (List.mem_cons_self ..)
    have h2 := flat_len (f := f) (g := g) (xs := xs) fun y hy => h y (List.mem_cons_of_mem _ hy)
    rw [List.flatMap_cons, List.flatMap_cons, List.length_append, List.length_append, Nat.mul_add]
    omega
/-- layers of rooms, one behind the other -/
structure Lay (R : Nat) (ls : List (List Nat)) : Prop where
  flat : ls.flatten = List.range R
  ne : ∀ l ∈ ls, l ≠ []
  two : ∀ l ∈ ls, l.length ≤ 2
theorem ring_len {R : Nat} {ord : Nat → Nat} {ls : List (List Nat)} (h : Lay R ls) : (ring ord ls).length ≤ 2 * R := by
  by_cases e : ls = []
  · subst e; exact Nat.zero_le _
  · have h1 := flat_len (c := 2) (f := fun p : List Nat × Nat => p.1.flatMap (ringStp ord (ringOf ls p.2))) (g := fun p => p.1) (xs := ls.zipIdx) fun x _ => by
      have h2 := flat_len (c := 2) (f := ringStp ord (ringOf ls x.2)) (g := fun q : Nat => [q]) (xs := x.1) fun q _ => by
        unfold ringStp
        rw [List.length_map]
        exact h.two _ (ringOf_mem e)
      simpa using h2
    have h3 : ls.zipIdx.flatMap (fun p => p.1) = ls.flatten := by
      rw [List.flatMap_def]
      congr 1
      exact List.zipIdx_map_fst ..
    rw [h3, h.flat, List.length_range] at h1
    exact h1
theorem pr_inv {n : Nat} (h1 : n ≠ 0) (h2 : n ≤ 2) : Pr 60 (Rat.divInt 1 n) ∧ 0 < Rat.divInt 1 n := by
  have : n = 1 ∨ n = 2 := by omega
  rcases this with rfl | rfl
  · exact ⟨⟨⟨60, by decide +kernel⟩, by decide +kernel, by decide +kernel⟩, by decide +kernel⟩
  · exact ⟨⟨⟨30, by decide +kernel⟩, by decide +kernel, by decide +kernel⟩, by decide +kernel⟩
theorem ring_ok {R : Nat} {ord : Nat → Nat} {ls : List (List Nat)} (h : Lay R ls) (hR : R ≤ 12) (ho : ∀ q, q < R → ord q < R) (inj : ∀ i j, i < R → j < R → ord i = ord j → i = j) : Pc.Ok 60 ⟨R, 0, ring ord ls, [], 0⟩ where
  rooms := hR
  signs := by show 0 ≤ 3; omega
  outs := by show 0 ≤ 3; omega
  nins := by show 0 ≤ 3; omega
  ins := fun i hi => by cases hi
  nsteps := by
    show (ring ord ls).length ≤ 40
    have := ring_len (ord := ord) h
    omega
  steps := fun t ht => by
    have ht : t ∈ ring ord ls := ht
    unfold ring at ht
    obtain ⟨p, hp, ht⟩ := List.mem_flatMap.mp ht
    obtain ⟨q, hq, ht⟩ := List.mem_flatMap.mp ht
    obtain ⟨e, he, rfl⟩ := List.mem_map.mp ht
    have hp1 : p.1 ∈ ls := List.fst_mem_of_mem_zipIdx hp
    have hm := ringOf_mem (k := p.2) (List.ne_nil_of_mem hp1)
    have lt : ∀ l ∈ ls, ∀ q ∈ l, q < R := fun l hl q hq => by
      have : q ∈ ls.flatten := List.mem_flatten.mpr ⟨l, hl, hq⟩
      rw [h.flat] at this
      exact List.mem_range.mp this
    have pr := pr_inv (n := (ringOf ls p.2).length) (fun z => h.ne _ hm (List.length_eq_zero_iff.mp z)) (h.two _ hm)
    exact ⟨ho _ (lt _ hp1 _ hq), Nat.le_refl _, ho _ (lt _ hm _ he), pr.2, pr.1⟩
  sum := fun r hr => by
    show outOf r (ring ord ls) ≤ 1
    rw [outOf_ring h.ne, h.flat, qsum_rs]
    by_cases c : ∃ q, q < R ∧ ord q = r
    · obtain ⟨q, hq, e⟩ := c
      rw [rs_one hq fun i hi ne => if_neg fun z => ne (inj i q hi hq (z.trans e.symm))]
      rw [if_pos e]
      decide
    · rw [rs_congr (g := fun _ => 0) fun i hi => if_neg fun z => c ⟨i, hi, z⟩, rs_zero]
      decide
/-! ### pieces drawn room by room -/
theorem outOf_app {r : Nat} {ts us : List Stp} : outOf r (ts ++ us) = outOf r ts + outOf r us := by
  unfold outOf
  rw [List.filter_append, List.map_append, qsum_app]
theorem outOf_one {r : Nat} {t : Stp} : outOf r [t] = if t.s = r then t.c else 0 := by
  unfold outOf
  by_cases c : t.s = r
  · simp [c, Rat.add_zero]
  · simp [c]
/-- a step within a piece of so many rooms, signs, doors out -/
def Stp.In (R G O : Nat) (t : Stp) : Prop := t.s < R ∧ t.g ≤ G ∧ t.e < R + O ∧ 0 < t.c ∧ Pr 60 t.c
/-- steps drawn for the rooms ahead of k, those of k so far taking so much -/
structure Dwn (R G O k : Nat) (q : Rat) (ts : List Stp) : Prop where
  ok : ∀ t ∈ ts, t.In R G O
  old : ∀ r, r < k → outOf r ts ≤ 1
  now : outOf k ts + q ≤ 1
  new : ∀ r, k < r → outOf r ts = 0
theorem div_le1 {a b : Rat} (hb : 0 < b) (h : a ≤ b) : a / b ≤ 1 := by
  have h1 := Rat.mul_le_mul_of_nonneg_right h (Rat.le_of_lt (Rat.inv_pos.mpr hb))
  rw [Rat.div_def]
  have : b * b⁻¹ = 1 := by grind
  rwa [this] at h1
theorem dv {a b : Int} : Rat.divInt a b = (a : Rat) / (b : Rat) := Rat.divInt_eq_div a b
theorem part_pr {part parts : Nat} (h1 : 1 ≤ part) (h2 : part ≤ parts) (h3 : parts ≤ 6) : Pr 60 (Rat.divInt part parts) ∧ 0 < Rat.divInt part parts := by
  have hz : (parts : Rat) ≠ 0 := by
    intro c
    have : parts = 0 := by exact_mod_cast c
    omega
  have d : parts ∣ 60 := by
    have : parts = 1 ∨ parts = 2 ∨ parts = 3 ∨ parts = 4 ∨ parts = 5 ∨ parts = 6 := by omega
    rcases this with rfl | rfl | rfl | rfl | rfl | rfl <;> decide
  obtain ⟨k, e⟩ := d
  have e0 : Rat.divInt part parts = (part : Rat) / (parts : Rat) := dv
  have hp : (0 : Rat) < (parts : Rat) := by
    have : 0 < parts := by omega
    exact_mod_cast this
  have hq : (0 : Rat) < (part : Rat) := by
    have : 0 < part := by omega
    exact_mod_cast this
  have hle : (part : Rat) ≤ (parts : Rat) := by exact_mod_cast h2
  have pos : 0 < Rat.divInt part parts := by
    rw [e0, Rat.div_def]
    exact Rat.mul_pos hq (Rat.inv_pos.mpr hp)
  refine ⟨⟨⟨(part * k : Nat), ?_⟩, Rat.le_of_lt pos, ?_⟩, pos⟩
  · rw [e0, e]
    have e1 : (((part * k : Nat) : Int) : Rat) = (part : Rat) * (k : Rat) := by exact_mod_cast rfl
    have e2 : ((parts * k : Nat) : Rat) = (parts : Rat) * (k : Rat) := by exact_mod_cast rfl
    rw [e1, e2]
    grind
  · rw [e0]
    exact div_le1 hp hle
theorem rest_sub {part rest parts : Int} (h : parts ≠ 0) : Rat.divInt part parts + Rat.divInt (rest - part) parts = Rat.divInt rest parts := by
  have hz : (parts : Rat) ≠ 0 := by exact_mod_cast h
  rw [dv, dv, dv, Rat.intCast_sub]
  grind
theorem Dwn.step {R G O k part parts g e : Nat} {rest : Int} {ts : List Stp} (d : Dwn R G O k (Rat.divInt rest parts) ts) (hk : k < R) (hg : g ≤ G) (he : e < R + O) (h1 : 1 ≤ part) (h2 : part ≤ parts) (h3 : parts ≤ 6) :
    Dwn R G O k (Rat.divInt (rest - part) parts) (ts ++ [⟨k, g, e, Rat.divInt part parts⟩]) where
  ok := fun t ht => by
    rcases List.mem_append.mp ht with ht | ht
    · exact d.ok t ht
    · rcases List.mem_singleton.mp ht with rfl
      have p := part_pr h1 h2 h3
      exact ⟨hk, hg, he, p.2, p.1⟩
  old := fun r hr => by
    rw [outOf_app, outOf_one]
    have := d.old r hr
    simp only [show ¬ k = r by omega, if_false, Rat.add_zero]
    exact this
  now := by
    rw [outOf_app, outOf_one]
    have h4 := d.now
    have h5 := rest_sub (part := part) (rest := rest) (parts := parts) (by omega)
    simp only [if_true]
    rw [Rat.add_assoc, h5]
    exact h4
  new := fun r hr => by
    rw [outOf_app, outOf_one, d.new r hr]
    simp only [show ¬ k = r by omega, if_false, Rat.add_zero]
theorem Dwn.next {R G O k : Nat} {q : Rat} {ts : List Stp} (d : Dwn R G O k q ts) (hq : 0 ≤ q) : Dwn R G O (k + 1) 0 ts ∧ outOf (k + 1) ts = 0 := ⟨{
  ok := d.ok
  old := fun r hr => by
    have h1 := d.now
    by_cases e : r = k
    · subst e; grind
    · exact d.old r (by omega)
  now := by
    rw [d.new (k + 1) (by omega)]
    decide +kernel
  new := fun r hr => d.new r (by omega) }, d.new (k + 1) (by omega)⟩
theorem Dwn.begin {R G O k : Nat} {ts : List Stp} {a : Int} {b : Nat} (d : Dwn R G O k 0 ts) (z : outOf k ts = 0) (h : a ≤ b) (hb : b ≠ 0) : Dwn R G O k (Rat.divInt a b) ts where
  ok := d.ok
  old := d.old
  now := by
    rw [z, Rat.zero_add]
    have e0 : Rat.divInt a b = (a : Rat) / (b : Rat) := dv
    have hp : (0 : Rat) < (b : Rat) := by
      have : 0 < b := by omega
      exact_mod_cast this
    rw [e0]
    exact div_le1 hp (by exact_mod_cast h)
  new := d.new
theorem Dwn.nil {R G O : Nat} : Dwn R G O 0 0 [] where
  ok := fun t ht => by cases ht
  old := fun r hr => by omega
  now := by show (0 : Rat) + 0 ≤ 1; decide +kernel
  new := fun r _ => rfl
theorem Dwn.piece {R G O : Nat} {ts : List Stp} {ins : List Nat} (d : Dwn R G O R 0 ts) (hR : R ≤ 12) (hG : G ≤ 3) (hO : O ≤ 3) (hts : ts.length ≤ 40) (h1 : ins.length ≤ 3) (h2 : ∀ i ∈ ins, i < R) : Pc.Ok 60 ⟨R, G, ts, ins, O⟩ where
  rooms := hR
  signs := hG
  outs := hO
  nins := h1
  ins := h2
  nsteps := hts
  steps := fun t ht => by
    obtain ⟨a, b, c, e, f⟩ := d.ok t ht
    exact ⟨a, b, c, e, f⟩
  sum := fun r hr => d.old r hr
end K44
namespace K44
open Dt PySem
/-! ### rows of whole numbers, solved -/
def iD (w : Nat) (b : Nat → Int) : List D := (List.range w).map fun j => .int (b j)
def imD (k w : Nat) (B : Nat → Nat → Int) : List D := (List.range k).map fun i => .lst (iD w (B i))
@[simp] theorem iD_length {w : Nat} {b : Nat → Int} : (iD w b).length = w := by simp [iD]
@[simp] theorem imD_length {k w : Nat} {B : Nat → Nat → Int} : (imD k w B).length = k := by simp [imD]
theorem iD_get {w j : Nat} {b : Nat → Int} (h : j < w) : (iD w b)[j]? = some (.int (b j)) := by simp [iD, h]
theorem imD_get {k w i : Nat} {B : Nat → Nat → Int} (h : i < k) : (imD k w B)[i]? = some (.lst (iD w (B i))) := by simp [imD, h]
@[simp] theorem iD_at {w j : Nat} {b : Nat → Int} (h : j < (iD w b).length) : (iD w b)[j] = .int (b j) := by simp [iD]
@[simp] theorem imD_at {k w i : Nat} {B : Nat → Nat → Int} (h : i < (imD k w B).length) : (imD k w B)[i] = .lst (iD w (B i)) := by simp [imD]
theorem imD_set {k w i : Nat} {B : Nat → Nat → Int} {b : Nat → Int} : (imD k w B).set i (.lst (iD w b)) = imD k w fun l => if l = i then b else B l := by
  refine List.ext_getElem? fun l => ?_
  rw [List.getElem?_set]
  unfold imD
  rw [List.length_map, List.length_range, List.getElem?_map, List.getElem?_map]
  by_cases e : i = l
  · subst e
    by_cases h : i < k <;> simp [h]
  · have e' : ¬ l = i := fun z => e z.symm
    by_cases h : l < k <;> simp [h, e, e']
theorem imD_succ {k w : Nat} {B : Nat → Nat → Int} : imD k w B ++ [.lst (iD w (B k))] = imD (k + 1) w B := by
  unfold imD
  rw [List.range_succ, List.map_append]
  rfl
theorem rg_from {s m : Nat} : rgD (s : Nat) m = (List.range' s m).map fun t => .int (t : Nat) := by
  unfold rgD
  rw [List.range'_eq_map_range, List.map_map]
  exact List.map_congr_left fun i _ => by simp
theorem iD_drop {n : Nat} {b : Nat → Int} : (iD (n + 1) b).drop n = [.int (b n)] := by
  unfold iD
  rw [List.range_succ, List.map_append, List.drop_append_of_le_length (by simp), List.drop_of_length_le (by simp)]
  rfl
theorem zp_sys {n : Nat} {E : Nat → Nat → Rat} : zpD ((mD n n E).map .lst) ((List.range n).map fun i => .lst [Sh (E i n)]) = (List.range n).map fun i => .tup [.lst (rowD n (E i)), .lst [Sh (E i n)]] := by
  unfold mD
  rw [List.map_map, zp_same]
  rfl
theorem zp_int {w : Nat} {f g : Nat → Int} : zpD (iD w f) (iD w g) = (List.range w).map fun j => .tup [.int (f j), .int (g j)] := by
  unfold iD
  rw [zp_same]
theorem en_ints {k w : Nat} {B : Nat → Nat → Int} : enD (imD k w B) = (List.range k).map fun i => .tup [.int (i : Nat), .lst (iD w (B i))] := by
  unfold imD
  rw [enD_map]
  refine List.ext_getElem? fun l => ?_
  rw [List.getElem?_map, List.getElem?_zipIdx, List.getElem?_map]
  by_cases h : l < k
  · simp [h]
  · simp [h]
theorem bits_le {m k : Nat} : ∀ {s : Nat}, s ≤ k → bits m s ≤ bits m k := by
  intro s h
  induction h with
  | refl => exact Nat.le_refl _
  | step _ ih => exact Nat.le_trans ih (by show _ ≤ 2 * bits m _ + 1; omega)
theorem fdiv_nat {a b : Nat} : (a : Int).fdiv (b : Int) = ((a / b : Nat) : Int) := (Int.ofNat_fdiv a b).symm
theorem lcm_fdiv {a b : Nat} : ((a : Int) * (b : Int)).fdiv (Nat.gcd a b : Nat) = (Nat.lcm a b : Nat) := by
  rw [← Int.natCast_mul, fdiv_nat]
  rfl
def SolvedTo (n : Nat) (E : Nat → Nat → Rat) (r : Sr) : Prop := ∃ B : Nat → Nat → Int, Clr n n B ∧ (∀ y, Ker n (n + 1) B y ↔ Ker n (n + 1) (fun i => whole (n + 1) (E i)) y) ∧ (∀ i j, i < n → j < n + 1 → Bt 4000 (B i j)) ∧ ∃ ρ, r = .rt (.dat (.lst ((List.range n).map fun i => .lst [Sh (Rat.divInt (B i n) (B i i))]))) ρ
theorem m_solved {n m M : Nat} {E : Nat → Nat → Rat} (hn : n ≤ 12) (hm : bits m n ≤ 4000) (h0 : 0 < M) (hM : M < 2 ^ m) (hd : ∀ i j, i < n → j < n + 1 → (E i j).den ∣ M) (lo : ∀ i j, i < n → j < n + 1 → -1 ≤ E i j) (hi : ∀ i j, i < n → j < n + 1 → E i j ≤ 1)
    (inj : ∀ y : Nat → Rat, (∀ i, i < n → (rs n fun j => E i j * y j) = 0) → ∀ j, j < n → y j = 0) :
    ∃ x : Nat → Rat, φ_solved_shares [.lst ((mD n n E).map .lst), .lst ((List.range n).map fun i => .lst [Sh (E i n)])] = .rt (.dat (.lst ((List.range n).map fun i => .lst [Sh (x i)]))) ∧ (∀ i, i < n → Sz 4000 (x i)) ∧ ∀ i, i < n → (rs n fun j => E i j * x j) = E i n := by
  have hm0 : m ≤ 4000 := Nat.le_trans (bits_le (Nat.zero_le n) : bits m 0 ≤ bits m n) hm
  have run : ∃ B, Clr n n B ∧ (∀ y, Ker n (n + 1) B y ↔ Ker n (n + 1) (fun i => whole (n + 1) (E i)) y) ∧ (∀ i j, i < n → j < n + 1 → Bt 4000 (B i j)) ∧ φ_solved_shares [.lst ((mD n n E).map .lst), .lst ((List.range n).map fun i => .lst [Sh (E i n)])] = .rt (.dat (.lst ((List.range n).map fun i => .lst [Sh (Rat.divInt (B i n) (B i i))]))) := by
    have r1 : n ≤ lim := by unfold lim; omega
    have good : SolvedTo n E (f_solved_shares (entD 15 [.lst ((mD n n E).map .lst), .lst ((List.range n).map fun i => .lst [Sh (E i n)])])) := by
      unfold f_solved_shares
      refine seq_to (by simp; rfl) ?_
      refine seq_to (by simp; rfl) ?_
      refine seq_to (for_nxt (fun k => [.no, .no, .dat (.int n), .ol (imD k (n + 1) fun i => whole (n + 1) (E i)), .no, .no, .no, .no, .no, .no, .no, .no, .no, .no, .no]) (by simp [zp_sys]; exact ⟨rfl, rfl⟩) (by rfl) (by simp; rfl) fun i hi' => ⟨_, by simp; rfl, ?_⟩) ?_
      · refine seq_to (by simp; rfl) ?_
        have hden : ∀ j, j < n + 1 → bot (E i) j ≤ M ∧ (E i j).den ≤ M ∧ 0 < bot (E i) j ∧ 0 < (E i j).den := fun j hj => ⟨Nat.le_of_dvd h0 (bot_dvd fun k hk => hd i k hi' (by omega)), Nat.le_of_dvd h0 (hd i j hi' hj), bot_pos, (E i j).den_pos⟩
        refine seq_to (for_nxt (fun k => [.no, .no, .dat (.int n), .ol (imD i (n + 1) fun i => whole (n + 1) (E i)), .dat (.lst (rowD n (E i))), .dat (.lst [Sh (E i n)]), .dat (.int (bot (E i) k : Nat)), .no, .no, .no, .no, .no, .no, .no, .no]) (by simp (disch := first | omega | (simp; done) | omega) [rowD_succ, lim, if_pos]; exact ⟨rfl, rfl⟩) (by rfl) (by simp; rfl) fun j hj => ⟨_, by simp; rfl, ?_⟩) ?_
        · obtain ⟨d1, d2, d3, d4⟩ := hden j hj
          have B1 : Bt m (bot (E i) j : Nat) := by unfold Bt; omega
          have B2 : Bt m ((E i j).den : Nat) := by unfold Bt; omega
          have e1 := B1.mulOk B2 (by omega)
          have e2 := fun x => (Bt.gcd (i := (bot (E i) j : Nat)) B2 (by omega)).divOk (i := x) (by omega) (by
            intro z
            have := (Int.gcd_eq_zero_iff.mp (Int.ofNat.inj z)).2
            omega)
          simp only [Int.gcd_natCast_natCast] at e2
          refine Nx.of (by simp [m_common_factor, oMul_ok e1, oDiv_ok (e2 _), -mulOk, -divOk]; rfl) ?_
          simp [lcm_fdiv]
          rfl
        · have lc : ∀ ρ, lcGo [7] (bName 7) fYes (fBin oMul (fIx (fAt 7) (fC (.int 0))) (fBin oDiv (fVar 6) (fIx (fAt 7) (fC (.int 1))))) (rowD (n + 1) (E i)) [] [.no, .no, .dat (.int n), .ol ρ, .dat (.lst (rowD n (E i))), .dat (.lst [Sh (E i n)]), .dat (.int (bot (E i) (n + 1) : Nat)), .no, .no, .no, .no, .no, .no, .no, .no] = some (iD (n + 1) (whole (n + 1) (E i)), [.no, .no, .dat (.int n), .ol ρ, .dat (.lst (rowD n (E i))), .dat (.lst [Sh (E i n)]), .dat (.int (bot (E i) (n + 1) : Nat)), .no, .no, .no, .no, .no, .no, .no, .no]) := fun ρ => by
            rw [rowD, lc_all (fun j => Sh (E i j)) (fun j => .int (whole (n + 1) (E i) j)) (List.range (n + 1)) [] fun j hj => ?_]
            · rfl
            · have hj := List.mem_range.mp hj
              obtain ⟨d1, d2, d3, d4⟩ := hden j hj
              have d5 : bot (E i) (n + 1) ≤ M := Nat.le_of_dvd h0 (bot_dvd fun k hk => hd i k hi' hk)
              have d6 := num_le (lo i j hi' hj) (hi i j hi' hj)
              have d7 : bot (E i) (n + 1) / (E i j).den ≤ bot (E i) (n + 1) := Nat.div_le_self ..
              have B2 : Bt m ((E i j).den : Nat) := by unfold Bt; omega
              have B3 : Bt m (E i j).num := by unfold Bt; omega
              have B4 : Bt m ((bot (E i) (n + 1) / (E i j).den : Nat) : Int) := by
                unfold Bt
                rw [Int.natAbs_natCast]
                exact Nat.lt_of_le_of_lt (Nat.le_trans d7 d5) hM
              have e1 := B3.mulOk B4 (by omega)
              have e2 := fun x => B2.divOk (i := x) (by omega) (by omega)
              exact ⟨_, _, by simp; rfl, by simp [oMul_ok e1, oDiv_ok (e2 _), -mulOk, -divOk, fdiv_nat, -Int.natCast_ediv]; exact ⟨rfl, rfl⟩, by simp⟩
          refine Nx.of (by simp (disch := first | omega | (simp; done) | omega) [rowD_succ, lim, if_pos, lc]; rfl) ?_
          simp [imD_succ]
      · refine seq_ex (for_nxx (fun s ρ => ∃ B, ρ = [.no, .no, .dat (.int n), .ol (imD n (n + 1) B), .no, .no, .no, .no, .no, .no, .no, .no, .no, .no, .no] ∧ Clr n s B ∧ (∀ y, Ker n (n + 1) B y ↔ Ker n (n + 1) (fun i => whole (n + 1) (E i)) y) ∧ ∀ i j, i < n → j < n + 1 → Bt (bits m s) (B i j))
          (by simp (disch := first | omega | (simp; done) | omega) [lim, if_pos]; exact ⟨rfl, rfl⟩) (by rfl) ⟨_, by simp, ⟨fun j hj => by omega, fun i j _ hj => by omega⟩, fun y => Iff.rfl, fun i j h1 h2 => whole_bt h2 h0 hM (fun k hk => hd i k h1 hk) (lo i j h1 h2) (hi i j h1 h2)⟩ ?_) ?_
        · rintro s _ hs ⟨B, rfl, c, k, hB⟩
          refine ⟨_, by simp; rfl, ?_⟩
          have hfar : lcGo [10] (bName 10) (fLook2 oNe (fVal (fIx (fVal (fIx (fAt 3) (fVar 10))) (fVar 8))) (fVal (fC (.int 0)))) (fVar 10) (rgD (s : Nat) (n - s)) [] [.no, .no, .dat (.int n), .ol (imD n (n + 1) B), .no, .no, .no, .no, .dat (.int s), .no, .no, .no, .no, .no, .no] = some (((List.range' s (n - s)).filter fun t => B t s != 0).map fun t => .int (t : Nat), [.no, .no, .dat (.int n), .ol (imD n (n + 1) B), .no, .no, .no, .no, .dat (.int s), .no, .no, .no, .no, .no, .no]) := by
            rw [rg_from, lc_map (fun t : Nat => .int t) (fun t => B t s != 0) (fun t : Nat => .int t) _ [] fun t ht => ?_]
            · rfl
            · have ht := List.mem_range'_1.mp ht
              have h1 : (B t s != 0) = !(B t s == 0) := rfl
              cases h : B t s == 0 with
              | true => exact ⟨_, _, by simp; rfl, by simp [h, h1, imD_get (show t < n by omega), iD_get (show s < n + 1 by omega)] <;> rfl, fun _ => by simp, (fun q => by rw [h1, h] at q; cases q)⟩
              | false => exact ⟨_, _, by simp; rfl, by simp [h, h1, imD_get (show t < n by omega), iD_get (show s < n + 1 by omega)] <;> rfl, (fun q => by rw [h1, h] at q; cases q), fun _ => ⟨_, by simp; rfl, by simp⟩⟩
          obtain ⟨i1, q1, q2, q3⟩ := c.pivot (w := n + 1) hs (Nat.le_succ n) ((whole_inj inj).of k)
          have q4 : i1 ∈ (List.range' s (n - s)).filter fun t => B t s != 0 := List.mem_filter.mpr ⟨List.mem_range'_1.mpr ⟨q1, by omega⟩, by simpa using q3⟩
          cases hF : (List.range' s (n - s)).filter fun t => B t s != 0 with
          | nil => rw [hF] at q4; cases q4
          | cons i0 F =>
          have q5 : i0 ∈ (List.range' s (n - s)).filter fun t => B t s != 0 := by rw [hF]; exact List.mem_cons_self ..
          obtain ⟨q6, q7⟩ := List.mem_filter.mp q5
          have q6 := List.mem_range'_1.mp q6
          have q7 : B i0 s ≠ 0 := by simpa using q7
          rw [hF] at hfar
          refine seq_to (by simp (disch := first | omega | (simp; done) | omega) [lim, if_pos, hfar]; rfl) ?_
          have ok1 : (D.lst (.int (i0 : Nat) :: F.map fun t => .int (t : Nat))).okq = true := okq_nats (xs := i0 :: F)
          refine seq_to (by simp [ok1]; rfl) ?_
          refine seq_to (ρ' := [.no, .no, .dat (.int n), .ol (imD n (n + 1) (swp s i0 B)), .no, .no, .no, .no, .dat (.int s), .dat (.lst (.int (i0 : Nat) :: F.map fun t => .int (t : Nat))), .no, .no, .no, .no, .no]) (by simp [imD_get hs, imD_get (show i0 < n by omega), hs, show i0 < n by omega, imD_set]; rfl) ?_
          have kS : ∀ y, Ker n (n + 1) (swp s i0 B) y ↔ Ker n (n + 1) (fun i => whole (n + 1) (E i)) y := fun y => (Ker.swp hs (by omega)).trans (k y)
          have pS : swp s i0 B s s ≠ 0 := by
            unfold swp
            by_cases z : s = i0
            · rw [if_pos z]
              subst z
              exact q7
            · rw [if_neg z, if_pos rfl]
              exact q7
          have bS : ∀ i j, i < n → j < n + 1 → Bt (bits m s) (swp s i0 B i j) := fun i j h1 h2 => by
            obtain ⟨l, e, q⟩ := swp_at (a := s) (b := i0) (i := i) (B := B)
            rw [e]
            exact hB l j (by rcases q with rfl | rfl | rfl <;> omega) h2
          have cS := c.swp (Nat.le_refl s) q6.1 hs (show i0 < n by omega)
          generalize swp s i0 B = C at kS pS bS cS
          refine seq_to (by simp [imD_get hs]; rfl) ?_
          have bl : bits m s ≤ 4000 := Nat.le_trans (bits_le (show s ≤ n by omega)) hm
          refine (for_nxx (fun k ρ => ∃ B', ρ = [.no, .no, .dat (.int n), .ol (imD n (n + 1) B'), .no, .no, .no, .no, .dat (.int s), .no, .no, .dat (.lst (iD (n + 1) (C s))), .no, .no, .no] ∧ Col n (n + 1) s k C B' ∧ ∀ i j, i < n → j < n + 1 → Bt (if i < k then bits m (s + 1) else bits m s) (B' i j))
            (by simp (disch := first | omega | (simp; done) | omega) [lim, if_pos]; exact ⟨rfl, rfl⟩) (by rfl) ⟨C, by simp, ⟨rfl, pS, fun i hi => by omega, cS, fun y => Iff.rfl⟩, fun i j h1 h2 => by rw [if_neg (by omega)]; exact bS i j h1 h2⟩ ?_).imp ?_
          · rintro i _ hi' ⟨B', rfl, hc, hb⟩
            have bup : ∀ i' j, i' < n → j < n + 1 → Bt (if i' < i + 1 then bits m (s + 1) else bits m s) (B' i' j) := fun i' j h1 h2 => by
              refine (hb i' j h1 h2).mono ?_
              have : bits m s ≤ bits m (s + 1) := bits_le (Nat.le_succ s)
              split <;> split <;> omega
            have g1 := imD_get (w := n + 1) (B := B') hi'
            have g2 := iD_get (b := B' i) (show s < n + 1 by omega)
            refine ⟨_, by simp; rfl, ?_⟩
            refine seq_to (by simp [g1, g2]; rfl) ?_
            by_cases e1 : i = s
            · refine if_to (t := false) (by simp [e1]; rfl) ?_
              exact ⟨_, rfl, B', by simp, hc.skip (.inl e1), bup⟩
            · by_cases e2 : B' i s = 0
              · refine if_to (t := false) (by simp [e1, e2]; rfl) ?_
                exact ⟨_, rfl, B', by simp, hc.skip (.inr e2), bup⟩
              · refine if_to (t := true) (by simp [e1, e2]; rfl) ?_
                have pv : C s = B' s := hc.piv.symm
                have hbi : ∀ j, j < n + 1 → Bt (bits m s) (B' i j) := fun j hj => by
                  have := hb i j hi' hj
                  rwa [if_neg (Nat.lt_irrefl i)] at this
                have hbs : ∀ j, j < n + 1 → Bt (bits m s) (C s j) := fun j hj => bS s j hs hj
                have hnew : ∀ j, j < n + 1 → Bt (bits m (s + 1)) (B' i j * C s s - C s j * B' i s) := fun j hj =>
                  ((hbi j hj).mul (hbs s (by omega))).sub ((hbs j hj).mul (hbi s (by omega))) (by show _ ≤ 2 * bits m s + 1; omega)
                have lc : lcGo [13, 14] (bTup 2 (bsCons (bName 13) (bsCons (bName 14) bsNil))) fYes (fBin oSub (fBin oMul (fVar 13) (fIx (fAt 11) (fVar 8))) (fBin oMul (fVar 14) (fVar 12))) (zpD (iD (n + 1) (B' i)) (iD (n + 1) (C s))) [] [.no, .no, .dat (.int n), .ol (imD n (n + 1) B'), .no, .no, .no, .no, .dat (.int s), .no, .dat (.int i), .dat (.lst (iD (n + 1) (C s))), .dat (.int (B' i s)), .no, .no] =
                    some (((List.range (n + 1)).map fun j => B' i j * C s s - C s j * B' i s).map D.int, [.no, .no, .dat (.int n), .ol (imD n (n + 1) B'), .no, .no, .no, .no, .dat (.int s), .no, .dat (.int i), .dat (.lst (iD (n + 1) (C s))), .dat (.int (B' i s)), .no, .no]) := by
                  rw [zp_int, lc_all (fun j => .tup [.int (B' i j), .int (C s j)]) (fun j => .int (B' i j * C s s - C s j * B' i s)) (List.range (n + 1)) [] fun j hj => ?_, List.map_map]
                  · rfl
                  · have hj := List.mem_range.mp hj
                    have w1 := (hbi j hj).mulOk (hbs s (by omega)) (by omega)
                    have w2 := (hbs j hj).mulOk (hbi s (by omega)) (by omega)
                    exact ⟨_, _, by simp; rfl, by simp [oMul_ok w1, oMul_ok w2, -mulOk, iD_get (show s < n + 1 by omega)] <;> first | exact ⟨rfl, rfl⟩ | rfl, by simp⟩
                obtain ⟨g, h1, ⟨q, hq, h2⟩, h3⟩ := m_plain_row (n := bits m (s + 1)) (xs := (List.range (n + 1)).map fun j => B' i j * C s s - C s j * B' i s) (Nat.le_trans (Nat.le_trans (bits_le (show s + 1 ≤ n by omega)) hm) (by decide)) (fun x hx => by
                  obtain ⟨j, hj, rfl⟩ := List.mem_map.mp hx
                  exact hnew j (List.mem_range.mp hj))
                have mem : ∀ j, j < n + 1 → B' i j * C s s - C s j * B' i s ∈ (List.range (n + 1)).map fun j => B' i j * C s s - C s j * B' i s := fun j hj => List.mem_map.mpr ⟨j, List.mem_range.mpr hj, rfl⟩
                have h1' : φ_plain_row [.lst (((List.range (n + 1)).map fun j => B' i j * C s s - C s j * B' i s).map D.int)] = .rt (.dat (.lst (iD (n + 1) fun j => g (B' i j * C s s - C s j * B' i s)))) := by
                  rw [h1, List.map_map]
                  rfl
                rw [if_pos rfl]
                refine Nx.of (by simp [g1, lc, h1', hi', imD_set, -List.map_map]; rfl) ⟨_, by simp; rfl, hc.elim hs (Nat.le_succ n) hi' e1 ⟨⟨q, hq, fun j hj => ?_⟩, fun l hl => by rw [if_neg hl]⟩, fun l j h5 h6 => ?_⟩
                · rw [if_pos rfl, ← pv]
                  exact h2 _ (mem j hj)
                · by_cases e3 : l = i
                  · subst e3
                    rw [if_pos (Nat.lt_succ_self l), if_pos rfl]
                    exact Nat.lt_of_le_of_lt (h3 _ (mem j h6)) (hnew j h6)
                  · rw [if_neg e3]
                    exact bup l j h5 h6
          · rintro ρ ⟨B', rfl, hc, hb⟩
            refine ⟨B', by simp, hc.next, fun y => (hc.ker y).trans (kS y), fun i j h1 h2 => ?_⟩
            have := hb i j h1 h2
            rwa [if_pos h1] at this
        · rintro ρ ⟨B, rfl, c, k, hB⟩
          have hB' : ∀ i j, i < n → j < n + 1 → Bt 4000 (B i j) := fun i j h1 h2 => (hB i j h1 h2).mono hm
          have lc : lcGo [8, 4] (bTup 2 (bsCons (bName 8) (bsCons (bName 4) bsNil))) fYes (fFr (fLc [13] (fItL (fFr (fCut (fAt 4) (fSo (fVar 2)) fNo))) (bName 13) fYes (fIf (fLook2 oNe (fAt 13) (fVal (fC (.int 0)))) (fFz (fCallD φ_made_share (fCons (fVar 13) (fCons (fIx (fAt 4) (fVar 8)) fNil)))) (fC (.tup [.int 0, .int 1]))))) (enD (imD n (n + 1) B)) [] [.no, .no, .dat (.int n), .dat (.lst (imD n (n + 1) B)), .no, .no, .no, .no, .no, .no, .no, .no, .no, .no, .no] =
              some ((List.range n).map fun i => .lst [Sh (Rat.divInt (B i n) (B i i))], [.no, .no, .dat (.int n), .dat (.lst (imD n (n + 1) B)), .no, .no, .no, .no, .no, .no, .no, .no, .no, .no, .no]) := by
            rw [en_ints, lc_all (fun i => .tup [.int (i : Nat), .lst (iD (n + 1) (B i))]) (fun i => .lst [Sh (Rat.divInt (B i n) (B i i))]) (List.range n) [] fun i hi' => ?_]
            · rfl
            · have hi' := List.mem_range.mp hi'
              have w1 := m_made_share (a := B i n) (c.dia i hi') (hB' i i hi' (by omega)) (by decide)
              refine ⟨_, [.no, .no, .dat (.int n), .dat (.lst (imD n (n + 1) B)), .dat (.lst (iD (n + 1) (B i))), .no, .no, .no, .dat (.int i), .no, .no, .no, .no, .no, .no], by simp; rfl, ?_, by simp⟩
              by_cases z : B i n = 0
              · have w2 : Sh (Rat.divInt (B i n) (B i i)) = .tup [.int 0, .int 1] := by
                  rw [z, Rat.zero_divInt]
                  rfl
                simp only [w2]
                simp [iD_drop, lcGo, z]
              · simp [iD_drop, lcGo, z, w1, iD_get (show i < n + 1 by omega)]
          exact ⟨B, c, k, hB', _, by simp [lc]; rfl⟩
    obtain ⟨B, c, k, hB, ρ, e⟩ := good
    exact ⟨B, c, k, hB, by show runD 15 f_solved_shares _ = _; unfold runD; rw [e]⟩
  obtain ⟨B, c, k, hB, e⟩ := run
  refine ⟨fun i => Rat.divInt (B i n) (B i i), e, fun i hi => Sz.divInt (c.dia i hi) (hB i n hi (by omega)) (hB i i hi (by omega)), fun i hi => ?_⟩
  rw [← whole_sol c k i hi]
  exact rs_congr fun j _ => by simp only [Rat.divInt_eq_div]
end K44
namespace K44
open Dt PySem
/-! ### arrivals -/
theorem m_is_aim {p : Pc} {e : Nat} (he : e < p.rooms + p.outs) : φ_is_aim [p.d, .tup [.int e]] = .rt (.dat (.bl true)) := by
  show runD 5 f_is_aim _ = _
  unfold runD f_is_aim Pc.d
  simp (disch := first | omega | (simp; done) | (simp; omega)) [y_tuple, y_among, lcGo, toBls, zpD, cut_1]
theorem m_need_right_aim {p : Pc} {e : Nat} {w : D} (he : e < p.rooms + p.outs) : φ_need_right_aim [p.d, .tup [.int e], w] = .rt (.dat (.tup [.int e])) := by
  have h := m_is_aim he
  show runD 3 f_need_right_aim _ = _
  unfold runD f_need_right_aim
  simp [h]
theorem m_need_aim {M : Nat} {p : Pc} {e : Nat} (h : p.Ok M) (h0 : 0 < M) (hM : M ≤ 10 ^ 12) (he : e < p.rooms + p.outs) : φ_need_aim [p.d, .tup [.int e]] = .rt (.dat (.tup [.int e])) := by
  have h1 := m_need_piece h h0 hM
  have h2 := m_need_right_aim (w := .str "aim") he
  show runD 2 f_need_aim _ = _
  unfold runD f_need_aim
  simp [h1, h2]
/-- nothing leads to the aim or to these any more -/
def Shut (A : Nat → Nat → Rat) (e R : Nat) (l : List Nat) : Prop := ∀ r, r < R → r ∉ l → A r e = 0 ∧ ∀ s ∈ l, A r s = 0
abbrev ldSt (R N e : Nat) (A : Nat → Nat → Rat) (l : List Nat) (m : Bool) : Ro := [.dat (.lst ((mD R N A).map .lst)), .dat (.tup [.int e]), .dat (.tup []), .ol (l.map fun r : Nat => .int r), .dat (.bl m), .no, .no, .no, .no]
theorem m_leading {R N e : Nat} {A : Nat → Nat → Rat} (hR : R ≤ 12) (hN : N ≤ 15) (hRN : R ≤ N) (hRe : R ≤ e) (heN : e < N) :
    ∃ l, Led A e R l ∧ Shut A e R l ∧ φ_leading_to [.lst ((mD R N A).map .lst), .tup [.int e], .tup []] = .rt (.dat (.lst ((sortI (l.map fun r : Nat => (r : Int))).map D.int))) := by
  have good : (∃ l, Led A e R l ∧ Shut A e R l ∧ ∃ ρ, f_leading_to (entD 9 [.lst ((mD R N A).map .lst), .tup [.int e], .tup []]) = .rt (.dat (.lst ((sortI (l.map fun r : Nat => (r : Int))).map D.int))) ρ) := by
    unfold f_leading_to
    obtain ⟨ρ, e1, l, e2, hl, hs⟩ : Nx (fun ρ => ∃ l, ρ = ldSt R N e A l false ∧ Led A e R l ∧ Shut A e R l) (fWh [5, 6, 7, 8] (fTb (fVar 4)) (fSeq (fSet 4 (fSD (fC (.bl false)))) (fFor [5, 6, 7, 8] (fEnL (fVar 0)) (bTup 2 (bsCons (bName 5) (bsCons (bName 6) bsNil))) (fIfS (fAnd (fLook2 oNin (fAt 5) (fAt 3)) (fAnd (fLook2 oNin (fAt 5) (fAt 1)) (fLook2 oNin (fAt 5) (fAt 2)))) (fIfS (fTb (fBuB (·.any id) (fVal (fFr (fLc [7, 8] (fEnL (fVar 6)) (bTup 2 (bsCons (bName 7) (bsCons (bName 8) bsNil))) fYes (fAndV (fBl (fLook2 oNe (fVal (fIx (fAt 8) (fC (.int 0)))) (fVal (fC (.int 0))))) (fOrV (fBl (fLook2 oIn (fAt 7) (fAt 1))) (fBl (fLook2 oIn (fAt 7) (fAt 3)))))))))) (fSeq (fApp 3 (fVar 5)) (fSet 4 (fSD (fC (.bl true))))) fPass) fPass))) (ldSt R N e A [] true)) := by
      refine wh_nx (fun n ρ => ∃ l m, ρ = ldSt R N e A l m ∧ Led A e R l ∧ (m = false → Shut A e R l) ∧ n = 2 * (R + 1 - l.length) + if m = true then 1 else 0) _ (2 * (R + 1) + 1) ⟨[], true, by simp, .nil, (fun z => by cases z), by simp⟩ ?_
      rintro n _ ⟨l, m, rfl, hl, hs, hn⟩
      cases m with
      | false => exact .inl ⟨ldSt R N e A l false, by simp, l, rfl, hl, hs rfl⟩
      | true =>
        refine .inr ⟨ldSt R N e A l true, by simp, ?_⟩
        refine seq_to (ρ' := ldSt R N e A l false) (by simp) ?_
        refine (for_nxx (fun i ρ => ∃ l1 m1, ρ = ldSt R N e A l1 m1 ∧ Led A e R l1 ∧ (m1 = true → l.length < l1.length) ∧ (m1 = false → l1 = l ∧ ∀ r, r < i → r ∉ l → A r e = 0 ∧ ∀ s ∈ l, A r s = 0)) (by simp [en_rows]; exact ⟨rfl, rfl⟩) (by rfl)
          ⟨l, false, by simp, hl, (fun z => by cases z), fun _ => ⟨rfl, fun r hr => by omega⟩⟩ ?_).imp ?_
        · rintro i _ hi ⟨l1, m1, rfl, hl1, hm1, hm2⟩
          refine ⟨_, by simp; rfl, ?_⟩
          have hie : ¬ e = i := by omega
          by_cases c1 : i ∈ l1
          · refine if_to (t := false) (by simp [c1, -oIn]; rfl) ?_
            refine ⟨_, rfl, l1, m1, by simp, hl1, hm1, fun z => ?_⟩
            obtain ⟨rfl, q⟩ := hm2 z
            refine ⟨rfl, fun r hr hn => ?_⟩
            by_cases e1 : r = i
            · subst e1; exact absurd c1 hn
            · exact q r (by omega) hn
          · refine if_to (t := true) (by simp [c1, hie, -oIn]; rfl) ?_
            rw [if_pos rfl]
            have lc : lcGo [7, 8] (bTup 2 (bsCons (bName 7) (bsCons (bName 8) bsNil))) fYes (fAndV (fBl (fLook2 oNe (fVal (fIx (fAt 8) (fC (.int 0)))) (fVal (fC (.int 0))))) (fOrV (fBl (fLook2 oIn (fAt 7) (fAt 1))) (fBl (fLook2 oIn (fAt 7) (fAt 3))))) (enD (rowD N (A i))) [] [.dat (.lst ((mD R N A).map .lst)), .dat (.tup [.int e]), .dat (.tup []), .ol (l1.map fun r : Nat => .int r), .dat (.bl m1), .dat (.int i), .dat (.lst (rowD N (A i))), .no, .no] =
                some (((List.range N).map fun j => !(A i j).num == 0 && (decide (e = j) || decide (j ∈ l1))).map D.bl, [.dat (.lst ((mD R N A).map .lst)), .dat (.tup [.int e]), .dat (.tup []), .ol (l1.map fun r : Nat => .int r), .dat (.bl m1), .dat (.int i), .dat (.lst (rowD N (A i))), .no, .no]) := by
              rw [en_row, lc_all (fun j => .tup [.int (j : Nat), Sh (A i j)]) (fun j => .bl (!(A i j).num == 0 && (decide (e = j) || decide (j ∈ l1)))) (List.range N) [] fun j hj => ?_, List.map_map]
              · rfl
              · refine ⟨_, [.dat (.lst ((mD R N A).map .lst)), .dat (.tup [.int e]), .dat (.tup []), .ol (l1.map fun r : Nat => .int r), .dat (.bl m1), .dat (.int i), .dat (.lst (rowD N (A i))), .dat (.int j), .dat (Sh (A i j))], by simp; rfl, ?_, by simp⟩
                by_cases z1 : A i j = 0
                · simp [z1, -oIn]
                · by_cases z2 : e = j
                  · simp [z1, z2, -oIn]
                  · simp [z1, z2, -oIn]
            cases ht : ((List.range N).map fun j => !(A i j).num == 0 && (decide (e = j) || decide (j ∈ l1))).any id with
            | true =>
              refine if_to (t := true) (by simp [lc, toBls_map, ht, -oIn, -List.map_map]; rfl) ?_
              rw [if_pos rfl]
              obtain ⟨b, hb, hid⟩ := List.any_eq_true.mp ht
              obtain ⟨j, hj, rfl⟩ := List.mem_map.mp hb
              have hj := List.mem_range.mp hj
              simp only [id, Bool.and_eq_true, Bool.or_eq_true, decide_eq_true_eq, Bool.not_eq_true', beq_eq_false_iff_ne] at hid
              have h0 : A i j ≠ 0 := fun z => hid.1 (by rw [z]; rfl)
              have hlen := nodup_len hl1.nodup hl1.lt
              have h2 : l.length ≤ l1.length := by
                cases m1 with
                | true => exact Nat.le_of_lt (hm1 rfl)
                | false => rw [(hm2 rfl).1]; exact Nat.le_refl _
              refine Nx.of (by simp (disch := first | omega | (simp; done) | (simp; omega)) [lim, if_pos]; rfl) ⟨l1 ++ [i], true, by simp, hl1.snoc hi c1 h0 (hid.2.imp Eq.symm id) (hid.2.elim (fun z => .inr z.symm) fun z => .inl (hl1.lt j z)), fun _ => by simp; omega, fun z => by cases z⟩
            | false =>
              refine if_to (t := false) (by simp [lc, toBls_map, ht, -oIn, -List.map_map]; rfl) ?_
              have ht' : ∀ j, j < N → (j = e ∨ j ∈ l1) → A i j = 0 := fun j hj q => by
                have h1 := List.any_eq_false.mp ht _ (List.mem_map.mpr ⟨j, List.mem_range.mpr hj, rfl⟩)
                have h2 : (decide (e = j) || decide (j ∈ l1)) = true := by
                  rcases q with rfl | q
                  · simp
                  · simp [q]
                rw [h2] at h1
                simpa using h1
              refine ⟨_, rfl, l1, m1, by simp, hl1, hm1, fun z => ?_⟩
              obtain ⟨rfl, q⟩ := hm2 z
              refine ⟨rfl, fun r hr hn => ?_⟩
              by_cases e1 : r = i
              · subst e1
                exact ⟨ht' e heN (.inl rfl), fun s hs => ht' s (by have := hl1.lt s hs; omega) (.inr hs)⟩
              · exact q r (by omega) hn
        · rintro ρ ⟨l1, m1, rfl, hl1, hm1, hm2⟩
          have h1 := nodup_len hl1.nodup hl1.lt
          refine ⟨_, ?_, l1, m1, by simp, hl1, fun z => ?_, rfl⟩
          · subst hn
            cases m1 with
            | true =>
              have := hm1 rfl
              simp
              omega
            | false =>
              obtain ⟨rfl, _⟩ := hm2 rfl
              simp
          · obtain ⟨rfl, q⟩ := hm2 z
            exact q
    have em : (l.map fun r : Nat => D.int r) = (l.map fun r : Nat => (r : Int)).map D.int := by
      rw [List.map_map]
      rfl
    rw [ldSt, em] at e2
    subst e2
    simp only [ldSt, List.map_nil] at e1
    refine ⟨l, hl, hs, ?_⟩
    simp [e1, toInts_map, -List.map_map]
  obtain ⟨l, h1, h2, ρ, h3⟩ := good
  exact ⟨l, h1, h2, by show runD 9 f_leading_to _ = _; unfold runD; rw [h3]⟩
theorem sorted_ix {l : List Nat} (hn : l.Nodup) : ∃ (n : Nat) (ix : Nat → Nat), (sortI (l.map fun r : Nat => (r : Int))).map D.int = (List.range n).map (fun i => D.int (ix i : Nat)) ∧ (∀ r, r ∈ l ↔ ∃ i, i < n ∧ r = ix i) ∧ (∀ i j, i < n → j < n → ix i = ix j → i = j) ∧ n = l.length := by
  have hp := sortI_perm (l.map fun r : Nat => (r : Int))
  generalize sortI (l.map fun r : Nat => (r : Int)) = s at hp
  have hm : ∀ z, z ∈ s ↔ ∃ r, r ∈ l ∧ (r : Int) = z := fun z => hp.mem_iff.trans List.mem_map
  have hnd : s.Nodup := hp.nodup_iff.mpr (List.Pairwise.map _ (fun a b h z => h (Int.ofNat.inj z)) hn)
  have hget : ∀ i (h : i < s.length), ((s[i].toNat : Nat) : Int) = s[i] := fun i h => by
    obtain ⟨r, _, e⟩ := (hm _).mp (List.getElem_mem h)
    omega
  refine ⟨s.length, fun i => (s.getD i 0).toNat, ?_, fun r => ⟨fun hr => ?_, fun ⟨i, hi, e⟩ => ?_⟩, fun i j hi hj e => ?_, by rw [hp.length_eq, List.length_map]⟩
  · refine List.ext_getElem? fun i => ?_
    rw [List.getElem?_map, List.getElem?_map]
    by_cases h : i < s.length
    · rw [List.getElem?_eq_getElem h, List.getElem?_range h]
      simp only [Option.map_some, List.getD_eq_getElem?_getD, List.getElem?_eq_getElem h, Option.getD_some, hget i h]
    · rw [List.getElem?_eq_none (by omega), List.getElem?_eq_none (by simp; omega)]
      rfl
  · obtain ⟨i, h, e⟩ := List.mem_iff_getElem.mp ((hm r).mpr ⟨r, hr, rfl⟩)
    refine ⟨i, h, ?_⟩
    simp only [List.getD_eq_getElem?_getD, List.getElem?_eq_getElem h, Option.getD_some, e]
    omega
  · obtain ⟨q, hq, e2⟩ := (hm _).mp (List.getElem_mem hi)
    simp only [List.getD_eq_getElem?_getD, List.getElem?_eq_getElem hi, Option.getD_some] at e
    have : r = q := by omega
    rwa [this]
  · simp only [List.getD_eq_getElem?_getD, List.getElem?_eq_getElem hi, List.getElem?_eq_getElem hj, Option.getD_some] at e
    have h1 := hget i hi
    have h2 := hget j hj
    have h3 : s[i] = s[j] := by omega
    rcases Nat.lt_trichotomy i j with q | q | q
    · exact absurd h3 (List.pairwise_iff_getElem.mp hnd i j hi hj q)
    · exact q
    · exact absurd h3.symm (List.pairwise_iff_getElem.mp hnd j i hj hi q)
theorem ds_sub {M : Nat} {p q : Rat} (h : Ds M p) (g : Ds M q) : Ds M (p - q) := by
  obtain ⟨z, e⟩ := h
  obtain ⟨w, f⟩ := g
  refine ⟨z - w, ?_⟩
  rw [Rat.intCast_sub, ← e, ← f]
  grind
/-- what arrives: by equations, nothing below 0 -/
structure Arr (R : Nat) (A : Nat → Nat → Rat) (e : Nat) (a : Nat → Rat) : Prop where
  pos : ∀ r, 0 ≤ a r
  eq : ∀ r, r < R → a r = (rs R fun s => A r s * a s) + A r e
  sz : ∀ r, Sz 4000 (a r)
def ArrTo (x : Nat → Rat) (R : Nat) (r : Sr) : Prop := ∃ ρ, r = .rt (.dat (.lst (rowD R x))) ρ
theorem m_arrivals_by {R O M e m : Nat} {A : Nat → Nat → Rat} (a : Mat M R (R + O) A) (h0 : 0 < M) (hM : M ≤ 10 ^ 12) (hm : M < 2 ^ m) (hbits : bits m R ≤ 4000) (hR : R ≤ 12) (hO : O ≤ 3) (he : R ≤ e) (heN : e < R + O) :
    ∃ x, Arr R A e x ∧ φ_arrivals_by [.lst ((mD R (R + O) A).map .lst), .tup [.int e], .tup []] = .rt (.dat (.lst (rowD R x))) := by
  obtain ⟨l, hl, hs, e1⟩ := m_leading (N := R + O) (A := A) hR (by omega) (Nat.le_add_right ..) he heN
  obtain ⟨n, ix, e2, hmem, inj, hn⟩ := sorted_ix hl.nodup
  rw [e2] at e1
  have hix : ∀ i, i < n → ix i < R := fun i hi => hl.lt _ ((hmem _).mpr ⟨i, hi, rfl⟩)
  have hnR : n ≤ R := by rw [hn]; exact nodup_len hl.nodup hl.lt
  have pr : ∀ r s, r < R → s < R + O → Pr M (A r s) := fun r s hr hs => (a.row hr).pr hs
  have prE : ∀ i j, i < n → j < n + 1 → Ds M (arrE ix A e n i j) ∧ -1 ≤ arrE ix A e n i j ∧ arrE ix A e n i j ≤ 1 := fun i j hi hj => by
    unfold arrE
    by_cases c : j < n
    · have p := pr (ix i) (ix j) (hix i hi) (by have := hix j c; omega)
      have p1 := p.lo
      have p2 := p.hi
      rw [if_pos c]
      by_cases c2 : ix i = ix j
      · rw [if_pos c2]
        exact ⟨ds_sub (Pr.one (M := M)).ds p.ds, by grind, by grind⟩
      · rw [if_neg c2]
        exact ⟨ds_sub (Pr.zero (M := M)).ds p.ds, by grind, by grind⟩
    · have p := pr (ix i) e (hix i hi) heN
      have p1 := p.lo
      have p2 := p.hi
      rw [if_neg c]
      exact ⟨p.ds, by grind, by grind⟩
  obtain ⟨x, e3, hx1, hx2⟩ := m_solved (E := arrE ix A e n) (m := m) (by omega) (Nat.le_trans (bits_le hnR) hbits) h0 hm (fun i j hi hj => (prE i j hi hj).1.den) (fun i j hi hj => (prE i j hi hj).2.1) (fun i j hi hj => (prE i j hi hj).2.2) (arr_inj a he heN hl hmem inj)
  have hx3 : ∀ i, i < n → (rs n fun j => arrE ix A e n i j * x j) = A (ix i) e := fun i hi => by
    rw [hx2 i hi]
    unfold arrE
    rw [if_neg (Nat.lt_irrefl n)]
  refine ⟨up ix x n, ⟨arr_nonneg a he heN hl hmem inj hx3, arr_eq hix inj hx3 fun r hr hno => ?_, fun r => ?_⟩, ?_⟩
  · obtain ⟨h1, h2⟩ := hs r hr fun z => by
      obtain ⟨i, hi, q⟩ := (hmem r).mp z
      exact hno i hi q
    exact ⟨h1, fun i hi => h2 _ ((hmem _).mpr ⟨i, hi, rfl⟩)⟩
  · by_cases c : ∃ i, i < n ∧ r = ix i
    · obtain ⟨i, hi, rfl⟩ := c
      rw [up_in inj (Nat.le_refl n) hi]
      exact hx1 i hi
    · rw [up_out fun i hi z => c ⟨i, hi, z⟩]
      exact .zero (by decide)
  · have good : ArrTo (up ix x n) R (f_arrivals_by (entD 12 [.lst ((mD R (R + O) A).map .lst), .tup [.int e], .tup []])) := by
      unfold f_arrivals_by
      refine seq_to (by simp [e1]; rfl) ?_
      refine seq_to (by simp; rfl) ?_
      refine seq_to (for_nxt (fun k => [.dat (.lst ((mD R (R + O) A).map .lst)), .dat (.tup [.int e]), .no, .dat (.lst ((List.range n).map fun i => .int (ix i : Nat))), .ol ((mD k n (arrE ix A e n)).map .lst), .ol ((List.range k).map fun i => .lst [Sh (arrE ix A e n i n)]), .no, .no, .no, .no, .no, .no]) (by simp; exact ⟨rfl, rfl⟩) (by rfl) (by simp; rfl) fun i hi => ⟨_, by simp; rfl, ?_⟩) ?_
      · have hM40 : M < 2 ^ 40 := Nat.lt_of_le_of_lt hM (by decide)
        have hrow : ∀ s, s < R + O → Sz 40 (A (ix i) s) := fun s hs => (pr (ix i) s (hix i hi) hs).sz h0 hM40
        have gr : ((mD R (R + O) A).map D.lst)[ix i]? = some (.lst (rowD (R + O) (A (ix i)))) := by
          rw [List.getElem?_map, mD_get (hix i hi)]
          rfl
        have l1 : ∀ ρ1 ρ2, lcGo [7] (bName 7) fYes (fFz (fCallD φ_minus_by (fCons (fIf (fLook2 oEq (fAt 6) (fAt 7)) (fC (.tup [.int 1, .int 1])) (fC (.tup [.int 0, .int 1]))) (fCons (fIx (fVal (fIx (fAt 0) (fVar 6))) (fVar 7)) fNil)))) ((List.range n).map fun i => .int (ix i : Nat)) [] [.dat (.lst ((mD R (R + O) A).map .lst)), .dat (.tup [.int e]), .no, .dat (.lst ((List.range n).map fun i => .int (ix i : Nat))), ρ1, ρ2, .dat (.int (ix i)), .no, .no, .no, .no, .no] =
            some (rowD n (arrE ix A e n i), [.dat (.lst ((mD R (R + O) A).map .lst)), .dat (.tup [.int e]), .no, .dat (.lst ((List.range n).map fun i => .int (ix i : Nat))), ρ1, ρ2, .dat (.int (ix i)), .no, .no, .no, .no, .no]) := fun ρ1 ρ2 => by
          rw [lc_all (fun j => .int (ix j : Nat)) (fun j => Sh (arrE ix A e n i j)) (List.range n) [] fun j hj => ?_]
          · rfl
          · have hj := List.mem_range.mp hj
            have hlt : ix j < R + O := by have := hix j hj; omega
            have g2 := rowD_get (f := A (ix i)) hlt
            have hE : arrE ix A e n i j = (if ix i = ix j then 1 else 0) - A (ix i) (ix j) := by
              unfold arrE
              rw [if_pos hj]
            refine ⟨_, [.dat (.lst ((mD R (R + O) A).map .lst)), .dat (.tup [.int e]), .no, .dat (.lst ((List.range n).map fun i => .int (ix i : Nat))), ρ1, ρ2, .dat (.int (ix i)), .dat (.int (ix j)), .no, .no, .no, .no], by simp; rfl, ?_, by simp⟩
            rw [hE]
            by_cases c : ix i = ix j
            · have w := m_minus_by (Sz.one (n := 40) (by decide)) (hrow (ix j) hlt) (by decide)
              rw [c] at gr g2
              rw [if_pos c]
              rw [c] at w
              simp [c, gr, g2, oSh, w, -List.getElem?_map]
            · have w := m_minus_by (Sz.zero (n := 40) (by decide)) (hrow (ix j) hlt) (by decide)
              rw [if_neg c]
              simp [c, gr, g2, zSh, w, -List.getElem?_map]
        have g3 := rowD_get (f := A (ix i)) heN
        have w2 := m_sum_by (n := 40) (M := M) (qs := [A (ix i) e]) (by decide) hM40 h0 ⟨fun q hq => by
          rcases List.mem_singleton.mp hq with rfl
          exact (pr (ix i) e (hix i hi) heN).ds, fun q hq => by
          rcases List.mem_singleton.mp hq with rfl
          exact (pr (ix i) e (hix i hi) heN).lo, .zero, by
          have := (pr (ix i) e (hix i hi) heN).hi
          simp [Rat.add_zero, Rat.zero_add]
          exact this⟩
        have hE2 : arrE ix A e n i n = A (ix i) e := by
          unfold arrE
          rw [if_neg (Nat.lt_irrefl n)]
        rw [qsum_cons, qsum_nil, Rat.add_zero, List.map_cons, List.map_nil] at w2
        refine seq_to (by simp (disch := first | omega | (simp; done) | (simp; omega)) [l1, lim, if_pos]; rfl) ?_
        refine Nx.of (by simp (disch := first | omega | (simp; done) | (simp; omega)) [lcGo, gr, g3, w2, lim, if_pos, -List.getElem?_map]; rfl) ?_
        simp [mD_succ, List.range_succ, hE2]
      · have l3 : ∀ s3 s4 s5, lcGo [10] (bName 10) fYes (fIf (fLook2 oIn (fAt 10) (fAt 1)) (fC (.tup [.int 1, .int 1])) (fC (.tup [.int 0, .int 1]))) ((List.range R).map fun i => .int (i : Nat)) [] [.dat (.lst ((mD R (R + O) A).map .lst)), .dat (.tup [.int e]), .no, s3, s4, s5, .no, .no, .no, .no, .no, .no] =
            some (rowD R (up ix x 0), [.dat (.lst ((mD R (R + O) A).map .lst)), .dat (.tup [.int e]), .no, s3, s4, s5, .no, .no, .no, .no, .no, .no]) := fun s3 s4 s5 => by
          rw [lc_all (fun i : Nat => .int i) (fun j => Sh (up ix x 0 j)) (List.range R) [] fun j hj => ?_]
          · rfl
          · have hj := List.mem_range.mp hj
            have c : ¬ e = j := by omega
            refine ⟨_, [.dat (.lst ((mD R (R + O) A).map .lst)), .dat (.tup [.int e]), .no, s3, s4, s5, .no, .no, .no, .no, .dat (.int j), .no], by simp; rfl, ?_, by simp⟩
            show _ = Res.ok (Sh 0) _
            simp [c, -oIn]
        refine seq_to (by simp (disch := first | omega | (simp; done) | (simp; omega)) [l3, lim, if_pos]; rfl) ?_
        refine seq_to (for_nxt (fun k => [.no, .no, .no, .no, .no, .no, .no, .no, .no, .ol (rowD R (up ix x k)), .no, .no]) (by simp [e3, zp_same]; exact ⟨rfl, rfl⟩) (by rfl) (by simp) fun i hi => ⟨_, by simp; rfl, ?_⟩) ?_
        · refine Nx.of (by simp [hix i hi, rowD_set]; rfl) ?_
          simp
          rfl
        · exact ⟨_, by simp; rfl⟩
    obtain ⟨ρ, h⟩ := good
    show runD 12 f_arrivals_by _ = _
    unfold runD
    rw [h]
theorem m_arrivals_of {M e m : Nat} {p : Pc} (h : p.Ok M) (h0 : 0 < M) (hM : M ≤ 10 ^ 12) (hm : M < 2 ^ m) (hbits : bits m p.rooms ≤ 4000) (he : p.rooms ≤ e) (heN : e < p.rooms + p.outs) :
    ∃ x, Arr p.rooms p.mv e x ∧ φ_arrivals_of [p.d, .tup [.int e]] = .rt (.dat (.tup (rowD p.rooms x))) := by
  obtain ⟨x, hx, e1⟩ := m_arrivals_by h.mat h0 hM hm hbits h.rooms h.outs he heN
  refine ⟨x, hx, ?_⟩
  have e2 := m_need_aim h h0 hM heN
  have e3 := m_moves_by h h0 hM
  show runD 2 f_arrivals_of _ = _
  unfold runD f_arrivals_of
  simp [e1, e2, e3]
end K44
namespace K44
open Dt PySem
/-! ### draws -/
/-- at most so many draws taken -/
def Dn (n : Nat) (m : Dr) : Prop := 0 ≤ m.2.1 ∧ m.2.1 ≤ n
theorem Dn.mono {n k : Nat} {m : Dr} (h : Dn n m) (hk : n ≤ k) : Dn k m := ⟨h.1, by have := h.2; omega⟩
theorem fmod_bt {k m : Nat} {x : Int} (hk : 0 < k) (hm : k < 2 ^ m) : Bt m (x.fmod k) := by
  have h1 := Int.fmod_nonneg_of_pos x (show (0 : Int) < k by omega)
  have h2 := Int.fmod_lt_of_pos x (show (0 : Int) < k by omega)
  unfold Bt
  omega
theorem fmod_nat {k : Nat} {x : Int} (hk : 0 < k) : ∃ i : Nat, i < k ∧ x.fmod k = i := by
  have h1 := Int.fmod_nonneg_of_pos x (show (0 : Int) < k by omega)
  have h2 := Int.fmod_lt_of_pos x (show (0 : Int) < k by omega)
  exact ⟨(x.fmod k).toNat, by omega, by omega⟩
theorem d_next {n many : Nat} {p : Addr} {m : Dr} (h : Dn n m) (hn : n < 2 ^ 40) (h0 : 0 < many) (hm : many < 2 ^ 40) : ∃ (i : Nat) (m' : Dr), i < many ∧ Dn (n + 1) m' ∧ φ__law_next p m [.int (many : Nat)] = .rt (.dat (.int (i : Nat))) m' := by
  obtain ⟨cells, a, left⟩ := m
  have hB : Bt 40 (many : Int) := by unfold Bt; omega
  have ok : ∀ x, divOk x (many : Int) = true := fun x => hB.divOk (by decide) (by omega)
  have nz : (many : Int) ≠ 0 := by omega
  cases left with
  | cons z zs =>
    obtain ⟨i, hi, e⟩ := fmod_nat (x := z) h0
    by_cases c : z.fdiv many = 0
    · refine ⟨i, (cells, a, zs), hi, h.mono (Nat.le_succ n), ?_⟩
      show runM 6 f__law_next p _ _ = _
      unfold runM f__law_next
      simp [oDiv_ok (ok _), oMod_ok nz, c, e, -divOk]
    · refine ⟨i, (cells, a, z.fdiv many :: zs), hi, h.mono (Nat.le_succ n), ?_⟩
      show runM 6 f__law_next p _ _ = _
      unfold runM f__law_next
      simp [oDiv_ok (ok _), oMod_ok nz, c, e, -divOk]
  | nil =>
    have ha : Bt 40 a := by
      have h1 := h.1
      have h2 := h.2
      simp only at h1 h2
      unfold Bt
      omega
    have hc : ∃ cell : Int, (if cells = [] then some (D.int 0) else (L2.atI cells (a.fmod cells.length)).map D.int) = some (.int cell) := by
      by_cases e : cells = []
      · exact ⟨0, by rw [if_pos e]⟩
      · have h0 : 0 < cells.length := List.length_pos_iff.mpr e
        obtain ⟨i, hi, ei⟩ := fmod_nat (x := a) h0
        exact ⟨cells[i], by rw [if_neg e, ei, atI_nat, List.getElem?_eq_getElem hi]; rfl⟩
    obtain ⟨cell, hc⟩ := hc
    have b1 : Bt 31 (cell.fmod 2147483629) := fmod_bt (k := 2147483629) (by decide) (by decide)
    have lit : ∀ k : Nat, k < 2 ^ 40 → Bt 40 (k : Int) := fun k hk => by unfold Bt; omega
    have b2 : Bt 80 (2 * a) := (lit 2 (by decide)).mul ha
    have b3 : Bt 81 (2 * a + 3) := b2.add ((lit 3 (by decide)).mono (by decide)) (by decide)
    have m1 : mulOk 2 a = true := (lit 2 (by decide)).mulOk ha (by decide)
    have m2 := b1.mulOk b3 (by decide)
    have key : ∃ v : Int, φ__law_next p (cells, a, []) [.int (many : Nat)] = .rt (.dat (.int (v.fmod (many : Nat)))) (cells, a + 1, []) := by
      have hv : ∃ v, v = cell.fmod 2147483629 * (2 * a + 3) := ⟨_, rfl⟩
      obtain ⟨x1, hx1⟩ := hv
      have m3 : mulOk 7919 a = true := (lit 7919 (by decide)).mulOk ha (by decide)
      have m4 : mulOk (7919 * a) a = true := ((lit 7919 (by decide)).mul ha).mulOk ha (by decide)
      have m5 : mulOk 104729 a = true := (lit 104729 (by decide)).mulOk ha (by decide)
      have hv : ∃ v, v = (x1 + 7919 * a * a + 104729 * a + 31).fmod 2147483647 := ⟨_, rfl⟩
      obtain ⟨x2, hx2⟩ := hv
      have b4 : Bt 31 x2 := by rw [hx2]; exact fmod_bt (k := 2147483647) (by decide) (by decide)
      have m6 := b4.mulOk b4 (by decide)
      have hv : ∃ v, v = (x2 * x2).fmod 2147483629 := ⟨_, rfl⟩
      obtain ⟨x3, hx3⟩ := hv
      have b5 : Bt 31 x3 := by rw [hx3]; exact fmod_bt (k := 2147483629) (by decide) (by decide)
      have m7 : mulOk x3 48271 = true := b5.mulOk (lit 48271 (by decide)) (by decide)
      have d1 : ∀ x, divOk x 13 = true := fun x => (lit 13 (by decide)).divOk (by decide) (show (13 : Int) ≠ 0 by decide)
      by_cases e : cells = []
      · subst e
        rw [if_pos rfl] at hc
        injection hc with hc
        injection hc with hc
        subst hc
        have z0 : Int.fmod 0 2147483629 = 0 := by decide
        rw [z0] at m2 hx1
        refine ⟨((x3 * 48271).fmod 2147483647).fdiv 13, ?_⟩
        show runM 6 f__law_next p _ _ = _
        unfold runM f__law_next
        simp [oMul_ok m1, oMul_ok m2, oMul_ok m3, oMul_ok m4, oMul_ok m5, oMul_ok m6, oMul_ok m7, oDiv_ok (d1 _), oMod_ok nz, ← hx1, ← hx2, ← hx3, -mulOk, -divOk, -Int.zero_fmod, -Int.zero_mul]
      · rw [if_neg e] at hc
        have e0 : ¬ cells.length = 0 := fun z => e (List.length_eq_zero_iff.mp z)
        have e1 : cells.isEmpty = false := by
          cases cells with
          | nil => exact absurd rfl e
          | cons _ _ => rfl
        cases hat : L2.atI cells (a.fmod cells.length) with
        | none => rw [hat] at hc; cases hc
        | some z =>
        rw [hat] at hc
        injection hc with hc
        injection hc with hc
        subst hc
        refine ⟨((x3 * 48271).fmod 2147483647).fdiv 13, ?_⟩
        show runM 6 f__law_next p _ _ = _
        unfold runM f__law_next
        simp [e1, e, hat, oMul_ok m1, oMul_ok m2, oMul_ok m3, oMul_ok m4, oMul_ok m5, oMul_ok m6, oMul_ok m7, oDiv_ok (d1 _), oMod_ok nz, ← hx1, ← hx2, ← hx3, -mulOk, -divOk]
    obtain ⟨v, hv⟩ := key
    obtain ⟨i, hi, ei⟩ := fmod_nat (x := v) h0
    rw [ei] at hv
    exact ⟨i, _, hi, ⟨by have := h.1; simp only at this ⊢; omega, by have := h.2; simp only at this ⊢; omega⟩, hv⟩
theorem d_nx (k : Int) {n : Nat} (p : Addr) {m : Dr} (h : Dn n m) (hn : n < 2 ^ 40) (h0 : 0 < k) (hm : k < 2 ^ 40) : ∃ (i : Nat) (m' : Dr), (i : Int) < k ∧ Dn (n + 1) m' ∧ φ__law_next p m [.int k] = .rt (.dat (.int (i : Nat))) m' := by
  obtain ⟨i, m', hi, hd, e⟩ := d_next (many := k.toNat) (p := p) h hn (by omega) (by omega)
  have e1 : ((k.toNat : Nat) : Int) = k := by omega
  rw [e1] at e
  exact ⟨i, m', by omega, hd, e⟩
theorem d_of {n : Nat} {p : Addr} {m : Dr} {ds : List D} (h : Dn n m) (hn : n < 2 ^ 40) (h0 : 0 < ds.length) (hm : ds.length < 2 ^ 40) : ∃ (d : D) (m' : Dr), d ∈ ds ∧ Dn (n + 1) m' ∧ φ__law_of p m [.lst ds] = .rt (.dat d) m' := by
  obtain ⟨i, m', hi, hd, e⟩ := d_next (p := p) h hn h0 hm
  refine ⟨ds[i], m', List.getElem_mem hi, hd, ?_⟩
  show runM 2 f__law_of p _ _ = _
  unfold runM f__law_of
  simp [e, hi]
abbrev rpSt (p : Addr) (m : Dr) (R G O : Nat) (ts : List Stp) : Ro := [.ofDr p m, .no, .dat (.int R), .dat (.int G), .dat (.int O), .ol (ts.map Stp.d), .no, .no, .no, .no, .no, .no, .no]
abbrev rpWh (p : Addr) (m : Dr) (R G O : Nat) (ts : List Stp) (k parts : Nat) (rest : Int) : Ro := [.ofDr p m, .no, .dat (.int R), .dat (.int G), .dat (.int O), .ol (ts.map Stp.d), .dat (.int k), .dat (.int parts), .dat (.int rest), .no, .no, .no, .no]
def PieceTo (n most : Nat) (p : Addr) (r : Sr) : Prop := ∃ (q : Pc) (m : Dr) (ρ : Ro), q.Ok 60 ∧ q.rooms ≤ most ∧ q.outs ≤ 2 ∧ Dn n m ∧ r = .rt (.dat q.d) ρ ∧ ρ.getD 0 .no = .ofDr p m
theorem d_room {n most : Nat} {p : Addr} {m : Dr} (h : Dn n m) (hn : n + 1000 < 2 ^ 40) (hmost : most ≤ 6) : ∃ (q : Pc) (m' : Dr), q.Ok 60 ∧ q.rooms ≤ most ∧ q.outs ≤ 2 ∧ Dn (n + 1000) m' ∧ φ__law_room_piece p m [.int (most : Nat)] = .rt (.dat q.d) m' := by
  have good : PieceTo (n + 1000) most p (f__law_room_piece (entM 13 p m [.int (most : Nat)])) := by
    unfold f__law_room_piece
    obtain ⟨R, m1, hR, h1, e1⟩ := d_nx (most + 1) p h (by omega) (by omega) (by omega)
    obtain ⟨G, m2, hG, h2, e2⟩ := d_nx 3 p h1 (by omega) (by omega) (by omega)
    obtain ⟨O, m3, hO, h3, e3⟩ := d_nx 3 p h2 (by omega) (by omega) (by omega)
    refine seq_to (by simp [e1, e2, e3]; rfl) ?_
    refine seq_to (by simp; rfl) ?_
    refine seq_ex (for_nxx (fun k ρ => ∃ m ts, ρ = rpSt p m R G O ts ∧ Dn (n + 3 + 20 * k) m ∧ ts.length ≤ 36 ∧ Dwn R G O k 0 ts ∧ outOf k ts = 0) (by simp (disch := first | omega | (simp; done) | (simp; omega)) [lim, if_pos]; exact ⟨rfl, rfl⟩) (by rfl) ⟨m3, [], by simp, h3, by simp, .nil, rfl⟩ ?_) ?_
    · rintro k _ hk ⟨m, ts, rfl, hm, hts, hd, hz⟩
      refine ⟨_, by simp; rfl, ?_⟩
      obtain ⟨i, m4, hi, h4, e4⟩ := d_nx 6 p hm (by omega) (by omega) (by omega)
      have hv : ∃ parts : Nat, parts = 1 + i := ⟨_, rfl⟩
      obtain ⟨parts, hparts⟩ := hv
      have ep : 1 + (i : Int) = (parts : Int) := by omega
      refine seq_to (by simp [e4, ep]; rfl) ?_
      obtain ⟨d, m5, hdm, h5, e5⟩ := d_of (p := p) (ds := [.int 0, .int 0, .int 0, .int 1, .int parts]) h4 (by omega) (by simp) (by simp)
      have hq : ∃ q : Int, d = .int q ∧ 0 ≤ q ∧ q ≤ parts := by
        simp at hdm
        rcases hdm with rfl | rfl | rfl
        · exact ⟨0, rfl, by omega, by omega⟩
        · exact ⟨1, rfl, by omega, by omega⟩
        · exact ⟨parts, rfl, by omega, by omega⟩
      obtain ⟨q, rfl, hq0, hq1⟩ := hq
      refine seq_to (by simp [e5]; rfl) ?_
      refine (wh_nx (fun ν ρ => ∃ m ts rest, ρ = rpWh p m R G O ts k parts rest ∧ Dn (n + 3 + 20 * k + 2 + 3 * (parts - rest).toNat) m ∧ 0 ≤ rest ∧ rest ≤ parts ∧ ts.length ≤ 36 ∧ Dwn R G O k (Rat.divInt rest parts) ts ∧ ν = rest.toNat)
        (fun ρ => ∃ m ts rest, ρ = rpWh p m R G O ts k parts rest ∧ Dn (n + 3 + 20 * k + 20) m ∧ ts.length ≤ 36 ∧ Dwn R G O k (Rat.divInt rest parts) ts ∧ 0 ≤ rest) (parts - q).toNat ?_ ?_).imp ?_
      · exact ⟨m5, ts, parts - q, by simp, h5.mono (by omega), by omega, by omega, hts, hd.begin hz (by omega) (by omega), rfl⟩
      · rintro ν _ ⟨m, ts, rest, rfl, hm, hr0, hr1, hts, hd, hν⟩
        have exit : Dn (n + 3 + 20 * k + 20) m := hm.mono (by omega)
        by_cases c1 : 0 < rest
        · by_cases c2 : 0 < R + O
          · by_cases c3 : ts.length < 36
            · have c2' : (0 : Int) < (R : Int) + (O : Int) := by omega
              have c3' : ((ts.length : Nat) : Int) < 36 := by omega
              refine .inr ⟨rpWh p m R G O ts k parts rest, by simp [c1, c2', c3'], ?_⟩
              obtain ⟨i6, m6, hi6, h6, e6⟩ := d_nx rest p hm (by omega) (by omega) (by omega)
              have hv : ∃ part : Nat, part = 1 + i6 := ⟨_, rfl⟩
              obtain ⟨part, hpart⟩ := hv
              have ep6 : 1 + (i6 : Int) = (part : Int) := by omega
              obtain ⟨i7, m7, hi7, h7, e7⟩ := d_nx ((R : Int) + O) p h6 (by omega) (by omega) (by omega)
              obtain ⟨i8, m8, hi8, h8, e8⟩ := d_nx ((G : Int) + 1) p h7 (by omega) (by omega) (by omega)
              have e9 := l_share (a := part) (b := parts) (n := 40) (by omega) (by unfold Bt; omega) (by decide)
              refine seq_to (by simp [e6, ep6]; rfl) ?_
              refine seq_to (by simp [e7]; rfl) ?_
              refine seq_to (by simp (disch := first | omega | (simp; done) | (simp; omega)) [e8, e9, lim, if_pos]; rfl) ?_
              refine Nx.of (by simp; rfl) ⟨(rest - part).toNat, by omega, m8, ts ++ [⟨k, i8, i7, Rat.divInt part parts⟩], rest - part, by simp, h8.mono (by omega), by omega, by omega, by simp; omega, hd.step hk (by omega) (by omega) (by omega) (by omega) (by omega), rfl⟩
            · have c2' : (0 : Int) < (R : Int) + (O : Int) := by omega
              have c3' : ¬ ((ts.length : Nat) : Int) < 36 := by omega
              exact .inl ⟨rpWh p m R G O ts k parts rest, by simp [c1, c2', c3'], m, ts, rest, rfl, exit, hts, hd, hr0⟩
          · have c2' : ¬ (0 : Int) < (R : Int) + (O : Int) := by omega
            exact .inl ⟨rpWh p m R G O ts k parts rest, by simp [c1, c2'], m, ts, rest, rfl, exit, hts, hd, hr0⟩
        · exact .inl ⟨rpWh p m R G O ts k parts rest, by simp [c1], m, ts, rest, rfl, exit, hts, hd, hr0⟩
      · rintro ρ ⟨m, ts, rest, rfl, hm, hts, hd, hr0⟩
        have hq0 : 0 ≤ Rat.divInt rest parts := Rat.divInt_nonneg hr0 (by omega)
        exact ⟨m, ts, by simp, hm.mono (by omega), hts, (hd.next hq0).1, (hd.next hq0).2⟩
    · rintro ρ ⟨m, ts, rfl, hm, hts, hd, hz⟩
      have hts' : (ts.map Stp.d).length ≤ 36 := by simpa using hts
      by_cases c : 0 < R
      · obtain ⟨w, m4, hw, h4, e4⟩ := d_nx 3 p hm (by omega) (by omega) (by omega)
        obtain ⟨ds, ρ', e5, m5, ins, rfl, rfl, h5, hl, hi⟩ := lc_ex0 (vs := [12]) (b := bName 12) (te := fFz (fCallM 0 φ__law_next (fCons (fVar 2) fNil))) (enc := fun i => .int (i : Nat))
          (fun i acc ρ => ∃ m ins, acc = ins.map nD ∧ ρ = rpSt p m R G O ts ∧ Dn (n + 3 + 20 * R + 1 + i) m ∧ ins.length = i ∧ ∀ x ∈ ins, x < R) (n := w) (ρ := rpSt p m4 R G O ts) (by
          rintro i _ _ hi ⟨m, ins, rfl, rfl, h6, h7, h8⟩
          obtain ⟨j, m7, hj, h9, e9⟩ := d_nx (R : Int) p h6 (by omega) (by omega) (by omega)
          refine ⟨_, .int (j : Nat), rpSt p m7 R G O ts |>.set 12 (.dat (.int i)), by simp; rfl, by simp [e9], m7, ins ++ [j], by simp [nD], by simp, h9.mono (by omega), by simp [h7], fun x hx => ?_⟩
          rcases List.mem_append.mp hx with hx | hx
          · exact h8 x hx
          · rcases List.mem_singleton.mp hx with rfl
            omega) ⟨m4, [], rfl, rfl, h4, rfl, fun x hx => by cases hx⟩
        simp only [rpSt, Sl.ofDr] at e5
        have c' : (0 : Int) < R := by omega
        have hl' : (ins.map nD).length ≤ 2 := by simp; omega
        refine seq_to (ρ' := [.ofDr p m5, .no, .dat (.int R), .dat (.int G), .dat (.int O), .ol (ts.map Stp.d), .no, .no, .no, .no, .no, .dat (.tup (ins.map nD)), .no]) (by simp (disch := first | omega | (simp; done) | (simp; omega)) [c', e4, e5, lim, if_pos]) ?_
        exact ⟨⟨R, G, ts, ins, O⟩, m5, _, hd.piece (by omega) (by omega) (by omega) (by omega) (by omega) hi, by show R ≤ most; omega, by show O ≤ 2; omega, h5.mono (by omega), by simp; rfl, by simp⟩
      · have c' : ¬ (0 : Int) < R := by omega
        refine seq_to (ρ' := [.ofDr p m, .no, .dat (.int R), .dat (.int G), .dat (.int O), .ol (ts.map Stp.d), .no, .no, .no, .no, .no, .dat (.tup []), .no]) (by simp [c]) ?_
        exact ⟨⟨R, G, ts, [], O⟩, m, _, hd.piece (by omega) (by omega) (by omega) (by omega) (by simp) (fun i hi => by cases hi), by show R ≤ most; omega, by show O ≤ 2; omega, hm.mono (by omega), by simp; rfl, by simp⟩
  obtain ⟨q, m', ρ, h1, h2, h3, h4, h5, h6⟩ := good
  refine ⟨q, m', h1, h2, h3, h4, ?_⟩
  show runM 13 f__law_room_piece p _ _ = _
  unfold runM
  rw [h5]
  simp only [h6]
  simp
end K44
namespace K44
open Dt PySem
/-! ### rings drawn -/
theorem perm_erase : ∀ {l : List Nat} {i : Nat} (h : i < l.length), (l[i] :: l.eraseIdx i).Perm l
  | x :: xs, 0, h => List.Perm.refl _
  | x :: xs, i + 1, h => by
    have ih := perm_erase (l := xs) (i := i) (by simpa using h)
    exact (List.Perm.swap ..).trans (List.Perm.cons x ih)
theorem era_map {f : Nat → D} : ∀ {l : List Nat} {i : Nat}, (l.map f).eraseIdx i = (l.eraseIdx i).map f
  | [], i => rfl
  | x :: xs, 0 => rfl
  | x :: xs, i + 1 => by
    show f x :: (xs.map f).eraseIdx i = f x :: (xs.eraseIdx i).map f
    rw [era_map]
def lD (l : List Nat) : D := .lst (l.map fun r : Nat => .int r)
theorem Lay.nil : Lay 0 [] where
  flat := rfl
  ne := fun l hl => by cases hl
  two := fun l hl => by cases hl
theorem Lay.add {R k : Nat} {ls : List (List Nat)} (h : Lay R ls) (h1 : 1 ≤ k) (h2 : k ≤ 2) : Lay (R + k) (ls ++ [List.range' R k]) where
  flat := by
    rw [List.flatten_append, h.flat, List.flatten_singleton, List.range_eq_range', List.range_eq_range']
    have := List.range'_append_1 (s := 0) (m := R) (n := k)
    rwa [Nat.zero_add] at this
  ne := fun l hl => by
    rcases List.mem_append.mp hl with hl | hl
    · exact h.ne l hl
    · rcases List.mem_singleton.mp hl with rfl
      intro z
      have := congrArg List.length z
      simp at this
      omega
  two := fun l hl => by
    rcases List.mem_append.mp hl with hl | hl
    · exact h.two l hl
    · rcases List.mem_singleton.mp hl with rfl
      simpa using h2
abbrev rgSt (p : Addr) (m : Dr) (most : Nat) (ls : List (List Nat)) (R : Nat) : Ro := [.ofDr p m, .dat (.int most), .ol (ls.map lD), .dat (.int R), .no, .no, .no, .no, .no, .no, .no, .no, .no, .no]
abbrev rgOr (p : Addr) (m : Dr) (ls : List (List Nat)) (R : Nat) (od rs : List Nat) : Ro := [.ofDr p m, .no, .ol (ls.map lD), .dat (.int R), .no, .no, .ol (od.map fun r : Nat => .int r), .ol (rs.map fun r : Nat => .int r), .no, .no, .no, .no, .no, .no]
abbrev rgEn (p : Addr) (m : Dr) (ls : List (List Nat)) (R : Nat) (od : List Nat) (ts : List Stp) : Ro := [.ofDr p m, .no, .dat (.lst (ls.map lD)), .dat (.int R), .no, .no, .ol (od.map fun r : Nat => .int r), .no, .ol (ts.map Stp.d), .no, .no, .no, .no, .no]
abbrev rgIn (p : Addr) (m : Dr) (ls : List (List Nat)) (R : Nat) (od : List Nat) (ts : List Stp) (s9 s10 : Sl) (ahead : List Nat) (s : Sl) : Ro := [.ofDr p m, .no, .dat (.lst (ls.map lD)), .dat (.int R), .no, .no, .ol (od.map fun r : Nat => .int r), .no, .ol (ts.map Stp.d), s9, s10, .dat (lD ahead), s, .no]
theorem d_ring {n most : Nat} {p : Addr} {m : Dr} (h : Dn n m) (hn : n + 1000 < 2 ^ 40) (hmost : most ≤ 6) : ∃ (q : Pc) (m' : Dr), q.Ok 60 ∧ q.rooms ≤ most ∧ q.outs ≤ 2 ∧ Dn (n + 1000) m' ∧ φ__law_ring_piece p m [.int (most : Nat)] = .rt (.dat q.d) m' := by
  have good : PieceTo (n + 1000) most p (f__law_ring_piece (entM 14 p m [.int (most : Nat)])) := by
    unfold f__law_ring_piece
    refine seq_to (by simp; rfl) ?_
    obtain ⟨i1, m1, hi1, h1, e1⟩ := d_nx 4 p h (by omega) (by omega) (by omega)
    have hv : ∃ w : Nat, w = 1 + i1 := ⟨_, rfl⟩
    obtain ⟨w, hw⟩ := hv
    have ew : 1 + (i1 : Int) = (w : Int) := by omega
    refine seq_ex (for_nxx (n := w) (fun k ρ => ∃ m ls R, ρ = rgSt p m most ls R ∧ Dn (n + 1 + k) m ∧ Lay R ls ∧ R ≤ most ∧ ls.length ≤ k) (by simp (disch := first | omega | (simp; done) | (simp; omega)) [e1, ew, lim, if_pos]; exact ⟨rfl, rfl⟩) (by rfl) ⟨m1, [], 0, by simp, h1, .nil, by omega, by simp⟩ ?_) ?_
    · rintro k _ hk ⟨m, ls, R, rfl, hm, hl, hR, hll⟩
      refine ⟨_, by simp; rfl, ?_⟩
      obtain ⟨i2, m2, hi2, h2, e2⟩ := d_nx 2 p hm (by omega) (by omega) (by omega)
      have hv : ∃ many : Nat, many = 1 + i2 := ⟨_, rfl⟩
      obtain ⟨many, hmany⟩ := hv
      have em : 1 + (i2 : Int) = (many : Int) := by omega
      refine seq_to (by simp [e2, em]; rfl) ?_
      by_cases c : R + many ≤ most
      · have c' : (R : Int) + many ≤ most := by omega
        refine if_to (t := true) (by simp [c']; rfl) ?_
        rw [if_pos rfl]
        refine seq_to (ρ' := [.ofDr p m2, .dat (.int most), .ol ((ls ++ [List.range' R many]).map lD), .dat (.int R), .dat (.int k), .dat (.int many), .no, .no, .no, .no, .no, .no, .no, .no]) (by simp (disch := first | omega | (simp; done) | (simp; omega)) [lim, if_pos, rg_from, lD]) ?_
        refine Nx.of (by simp; rfl) ⟨m2, ls ++ [List.range' R many], R + many, by simp, h2.mono (by omega), hl.add (by omega) (by omega), c, by simp; omega⟩
      · have c' : ¬ (R : Int) + many ≤ most := by omega
        refine if_to (t := false) (by simp [c']; rfl) ?_
        exact ⟨_, rfl, m2, ls, R, by simp, h2.mono (by omega), hl, hR, by omega⟩
    · rintro _ ⟨m, ls, R, rfl, hm, hl, hR, hll⟩
      refine seq_to (by simp (disch := first | omega | (simp; done) | (simp; omega)) [lim, if_pos]; rfl) ?_
      refine seq_ex (wh_nx (fun ν ρ => ∃ m od rs, ρ = rgOr p m ls R od rs ∧ Dn (n + 5 + (R - rs.length)) m ∧ (od ++ rs).Perm (List.range R) ∧ ν = rs.length) (fun ρ => ∃ m od, ρ = rgOr p m ls R od [] ∧ Dn (n + 5 + R) m ∧ od.Perm (List.range R)) R ?_ ?_) ?_
      · exact ⟨m, [], List.range R, by simp, hm.mono (by omega), List.Perm.refl _, by simp⟩
      · rintro ν _ ⟨m, od, rs, rfl, hm, hp, hν⟩
        have hlen := hp.length_eq
        rw [List.length_append, List.length_range] at hlen
        cases rs with
        | nil => exact .inl ⟨rgOr p m ls R od [], by simp, m, od, rfl, hm.mono (by simp), by simpa using hp⟩
        | cons r0 rs =>
          have okr := okq_nats (xs := r0 :: rs)
          refine .inr ⟨rgOr p m ls R od (r0 :: rs), by simp at okr; simp [okr], ?_⟩
          obtain ⟨i, m', hi, h2, e2⟩ := d_nx ((r0 :: rs).length : Nat) p hm (by omega) (by simp) (by simp at hlen ⊢; omega)
          have hi' : i < (r0 :: rs).length := by omega
          have hpop := perm_erase hi'
          generalize r0 :: rs = rs at *
          refine Nx.of (ρ' := rgOr p m' ls R (od ++ [rs[i]]) (rs.eraseIdx i)) (by simp (disch := first | omega | (simp; done) | (simp; omega)) [e2, hi', lim, if_pos, era_map]) ⟨rs.length - 1, by omega, m', od ++ [rs[i]], rs.eraseIdx i, by simp, h2.mono (by rw [List.length_eraseIdx_of_lt hi']; omega), ?_, by rw [List.length_eraseIdx_of_lt hi']⟩
          rw [List.append_assoc]
          exact (List.Perm.append_left od hpop).trans hp
      · rintro _ ⟨m, od, rfl, hm, hp⟩
        have hod : od.length = R := by rw [hp.length_eq, List.length_range]
        have hnd : od.Nodup := hp.nodup_iff.mpr List.nodup_range
        have hlt : ∀ q (h : q < od.length), od[q] < R := fun q h => List.mem_range.mp (hp.mem_iff.mp (List.getElem_mem h))
        have hord : ∀ q, q < R → ∃ h : q < od.length, od.getD q 0 = od[q] := fun q hq => ⟨by omega, by rw [List.getD_eq_getElem?_getD, List.getElem?_eq_getElem (by omega)]; rfl⟩
        have hin : ∀ l ∈ ls, ∀ q ∈ l, q < R := fun l hl' q hq => by
          have : q ∈ ls.flatten := List.mem_flatten.mpr ⟨l, hl', hq⟩
          rw [hl.flat] at this
          exact List.mem_range.mp this
        have hok := ring_ok (ord := fun q => od.getD q 0) hl (by omega) (fun q hq => by
          obtain ⟨h, e⟩ := hord q hq
          simp only [e]
          exact hlt q h) (fun i j hi hj e => by
          obtain ⟨h1, e1⟩ := hord i hi
          obtain ⟨h2, e2⟩ := hord j hj
          simp only [e1, e2] at e
          rcases Nat.lt_trichotomy i j with q | q | q
          · exact absurd e (List.pairwise_iff_getElem.mp hnd i j h1 h2 q)
          · exact q
          · exact absurd e.symm (List.pairwise_iff_getElem.mp hnd j i h2 h1 q))
        refine seq_to (by simp; rfl) ?_
        refine seq_to (for_nxf (xs := ls.zipIdx) (a := []) (enc := fun x => .tup [.int (x.2 : Nat), lD x.1]) (fun ts => rgEn p m ls R od ts) (fun ts x => ts ++ x.1.flatMap (ringStp (fun q => od.getD q 0) (ringOf ls x.2))) (fun xs ts => (∀ x ∈ xs, x ∈ ls.zipIdx) ∧ ts.length + 4 * xs.length ≤ 100) (by simp [enD_map]; exact ⟨rfl, rfl⟩) (by rfl) (by simp) ⟨fun x hx => hx, by simp; omega⟩ ?_) ?_
        · rintro ⟨layer, k⟩ xs ts ⟨hx, hts⟩
          have hmem := hx _ (List.mem_cons_self ..)
          have hlay : layer ∈ ls := List.fst_mem_of_mem_zipIdx hmem
          have hne : ls ≠ [] := List.ne_nil_of_mem hlay
          have hah := ringOf_mem (k := k) hne
          have a1 := hl.ne _ hah
          have a2 := hl.two _ hah
          have a3 := hl.two _ hlay
          have a4 : (ringOf ls k).length ≠ 0 := fun z => a1 (List.length_eq_zero_iff.mp z)
          have hlen0 : 0 < ls.length := List.length_pos_iff.mpr hne
          have hgl : (layer.flatMap (ringStp (fun q => od.getD q 0) (ringOf ls k))).length ≤ 4 := by
            have h2 := flat_len (c := 2) (f := ringStp (fun q => od.getD q 0) (ringOf ls k)) (g := fun q : Nat => [q]) (xs := layer) fun q _ => by
              unfold ringStp
              rw [List.length_map]
              exact a2
            have h3 : layer.flatMap (fun q : Nat => [q]) = layer := by simp
            rw [h3] at h2
            omega
          refine ⟨⟨fun x h => hx x (List.mem_cons_of_mem _ h), ?_⟩, _, by simp; rfl, ?_⟩
          · rw [List.length_append]
            rw [List.length_cons] at hts
            show ts.length + (layer.flatMap (ringStp (fun q => od.getD q 0) (ringOf ls k))).length + 4 * xs.length ≤ 100
            omega
          · have hget : ls[(k + 1) % ls.length]? = some (ringOf ls k) := by
              unfold ringOf
              rw [List.getD_eq_getElem?_getD, List.getElem?_eq_getElem (Nat.mod_lt _ hlen0)]
              rfl
            have hfm : ((k : Int) + 1).fmod (ls.length : Nat) = (((k + 1) % ls.length : Nat) : Int) := fmod_cast (a := k + 1)
            generalize (k + 1) % ls.length = j at hget hfm
            refine seq_to (ρ' := rgIn p m ls R od ts (.dat (.int k)) (.dat (lD layer)) (ringOf ls k) .no) (by simp [oMod_ok (show ((ls.length : Nat) : Int) ≠ 0 by omega), hfm, hget]) ?_
            refine Nx.of (ρ' := rgIn p m ls R od (ts ++ layer.flatMap (ringStp (fun q => od.getD q 0) (ringOf ls k))) .no .no (ringOf ls k) .no) ?_ (by simp)
            have hfold := foldl_flat (g := ringStp (fun q => od.getD q 0) (ringOf ls k)) (xs := layer) (a := ts)
            rw [← hfold]
            refine for_nxf (xs := layer) (enc := fun r : Nat => .int r) (fun ts => rgIn p m ls R od ts .no .no (ringOf ls k) .no) _ (fun xs ts => (∀ x ∈ xs, x ∈ layer) ∧ ts.length + 2 * xs.length ≤ 200) (by simp [lD]; exact ⟨rfl, rfl⟩) (by rfl) (by simp) ⟨fun x hx => hx, by omega⟩ ?_
            rintro room xs ts ⟨hx, hts⟩
            have hroom := hin layer hlay room (hx _ (List.mem_cons_self ..))
            obtain ⟨q1, q2⟩ := hord room hroom
            refine ⟨⟨fun x h => hx x (List.mem_cons_of_mem _ h), ?_⟩, _, by simp; rfl, ?_⟩
            · rw [List.length_append]
              rw [List.length_cons] at hts
              show ts.length + (ringStp (fun q => od.getD q 0) (ringOf ls k) room).length + 2 * xs.length ≤ 200
              unfold ringStp
              rw [List.length_map]
              omega
            · refine Nx.of (ρ' := rgIn p m ls R od (ts ++ ringStp (fun q => od.getD q 0) (ringOf ls k) room) .no .no (ringOf ls k) (.dat (.int room))) ?_ (by simp)
              have hfold := foldl_one (g := fun e => (⟨od.getD room 0, 0, od.getD e 0, Rat.divInt 1 ((ringOf ls k).length : Nat)⟩ : Stp)) (xs := ringOf ls k) (a := ts)
              unfold ringStp
              rw [← hfold]
              refine for_nxf (xs := ringOf ls k) (enc := fun r : Nat => .int r) (fun ts => rgIn p m ls R od ts .no .no (ringOf ls k) (.dat (.int room))) _ (fun xs ts => (∀ x ∈ xs, x ∈ ringOf ls k) ∧ ts.length + xs.length ≤ 300) (by simp [lD]; exact ⟨rfl, rfl⟩) (by rfl) (by simp [lD]) ⟨fun x hx => hx, by rw [List.length_cons] at hts; omega⟩ ?_
              rintro e xs ts ⟨hx, hts⟩
              rw [List.length_cons] at hts
              have he := hin _ hah e (hx _ (List.mem_cons_self ..))
              obtain ⟨q3, q4⟩ := hord e he
              have sh := l_share (a := 1) (b := ((ringOf ls k).length : Nat)) (n := 40) (by omega) (by unfold Bt; omega) (by decide)
              refine ⟨⟨fun x h => hx x (List.mem_cons_of_mem _ h), by rw [List.length_append]; simp; omega⟩, _, by simp; rfl, ?_⟩
              have g1 : (od.map fun r : Nat => D.int r)[room]? = some (.int (od[room]?.getD 0 : Nat)) := by
                rw [List.getElem?_map, List.getElem?_eq_getElem q1]
                rfl
              have g2 : (od.map fun r : Nat => D.int r)[e]? = some (.int (od[e]?.getD 0 : Nat)) := by
                rw [List.getElem?_map, List.getElem?_eq_getElem q3]
                rfl
              refine Nx.of (by simp (disch := first | omega | (simp; done) | (simp; omega)) [g1, g2, sh, lD, lim, if_pos, -List.getElem?_map]; rfl) (by simp [lD, List.getElem?_eq_getElem q1, List.getElem?_eq_getElem q3])
        · rw [foldl_flat, List.nil_append]
          change PieceTo _ _ _ (fRet _ (rgEn p m ls R od (ring (fun q => od.getD q 0) ls)))
          refine ⟨⟨R, 0, ring (fun q => od.getD q 0) ls, [], 0⟩, m, _, hok, hR, by show 0 ≤ 2; omega, hm.mono (by omega), by simp; rfl, by simp⟩
  obtain ⟨q, m', ρ, h1, h2, h3, h4, h5, h6⟩ := good
  refine ⟨q, m', h1, h2, h3, h4, ?_⟩
  show runM 14 f__law_ring_piece p _ _ = _
  unfold runM
  rw [h5]
  simp only [h6]
  simp
end K44
namespace K44
open Dt PySem
/-! ### numbers that are none; alike -/
theorem m_begin_bad {p : Pc} {d : D} (h : φ_is_among [d, .int 0, .int ((p.rooms : Int) - 1)] = .rt (.dat (.bl false))) : φ_need_begin_room [p.d, d] = .ex 2 d := by
  show runD 2 f_need_begin_room _ = _
  unfold runD f_need_begin_room Pc.d
  simp [h]
theorem m_behind_bad {M : Nat} {p : Pc} {d e : D} (hp : p.Ok M) (h0 : 0 < M) (hM : M ≤ 10 ^ 12) (h : φ_is_among [d, .int 0, .int ((p.rooms : Int) - 1)] = .rt (.dat (.bl false))) : φ_chances_behind [p.d, d, e] = .ex 2 d := by
  have e1 := m_need_piece hp h0 hM
  have e2 := m_begin_bad h
  show runD 12 f_chances_behind _ = _
  unfold runD f_chances_behind
  simp [e1, e2]
theorem m_many_bad {M r : Nat} {p : Pc} {d : D} (hp : p.Ok M) (h0 : 0 < M) (hM : M ≤ 10 ^ 12) (hr : r < p.rooms) (h : φ_is_among [d, .int 0, .int 200] = .rt (.dat (.bl false))) : φ_chances_behind [p.d, .int r, d] = .ex 2 d := by
  have e1 := m_need_piece hp h0 hM
  have e2 := m_need_begin hr
  show runD 12 f_chances_behind _ = _
  unfold runD f_chances_behind
  simp [e1, e2, h]
/-- tuples of tuples of whole numbers -/
inductive Tr : Nat → D → Prop
  | int {n : Nat} {i : Int} : Tr n (.int i)
  | tup {n : Nat} {ds : List D} : (∀ d ∈ ds, Tr n d) → ds.length ≤ 1000 → Tr (n + 1) (.tup ds)
theorem Tr.oq {n : Nat} {d : D} (h : Tr n d) : Oq n d := by
  induction h with
  | int => exact Oq.int.mono (Nat.zero_le _)
  | tup _ _ ih => exact Oq.tup ih
theorem l_like {n : Nat} {d : D} (h : Tr n d) : ∀ k, n < k → k ≤ 20 → φ__law_like k [d, d] = .rt (.dat (.bl true)) := by
  induction h with
  | @int n i =>
    intro k hk _
    obtain ⟨k, rfl⟩ : ∃ j, k = j + 1 := ⟨k - 1, by omega⟩
    show runD 3 (f__law_like (φ__law_like k)) _ = _
    unfold runD f__law_like
    simp [show (D.bl false).okq = true from rfl, show eqD (.bl false) (.bl false) = true by simp [eqD]]
  | @tup n ds hd hl ih =>
    intro k hk hk2
    obtain ⟨k, rfl⟩ : ∃ j, k = j + 1 := ⟨k - 1, by omega⟩
    have lc : lcGo [2] (bName 2) fYes (fFz (fCallD (φ__law_like k) (fCons (fIx (fAt 0) (fVar 2)) (fCons (fIx (fAt 1) (fVar 2)) fNil)))) ((List.range ds.length).map fun i => .int (i : Nat)) [] [.dat (.tup ds), .dat (.tup ds), .no] = some (((List.range ds.length).map fun _ => true).map D.bl, [.dat (.tup ds), .dat (.tup ds), .no]) := by
      rw [lc_all (fun i : Nat => .int i) (fun _ => .bl true) (List.range ds.length) [] fun j hj => ?_, List.map_map]
      · rfl
      · have hj := List.mem_range.mp hj
        have e := ih ds[j] (List.getElem_mem hj) k (by omega) (by omega)
        exact ⟨_, _, by simp; rfl, by simp [hj, e] <;> rfl, by simp⟩
    show runD 3 (f__law_like (φ__law_like k)) _ = _
    unfold runD f__law_like
    simp (disch := first | omega | (simp; done) | (simp; omega)) [lc, toBls_map, lim, if_pos, -List.map_map]
theorem tr_row {N : Nat} {f : Nat → Rat} (hN : N ≤ 1000) : Tr 2 (.tup (rowD N f)) := .tup (fun d hd => by
  obtain ⟨j, _, rfl⟩ := List.mem_map.mp hd
  exact .tup (fun x hx => by
    simp at hx
    rcases hx with rfl | rfl <;> exact .int) (by simp)) (by simpa using hN)
theorem l_like_row {N : Nat} {f : Nat → Rat} (hN : N ≤ 1000) : φ__law_like 6 [.tup (rowD N f), .tup (rowD N f)] = .rt (.dat (.bl true)) := l_like (tr_row hN) 6 (by decide) (by decide)
/-! ### chances of chances -/
theorem ch_vec {M r n : Nat} {p : Pc} (h : p.Ok M) (hr : r < p.rooms) : Vec (M ^ n) (p.rooms + p.outs) (p.ch r n) := it_vec h.mat (by omega) n
theorem ch_sz {M r n e : Nat} {p : Pc} (h : p.Ok M) (h0 : 0 < M) (hr : r < p.rooms) (he : e < p.rooms + p.outs) (hb : M ^ n < 2 ^ 4000) : Sz 4000 (p.ch r n e) := ((ch_vec h hr).pr he).sz (Nat.pow_pos h0) hb
/-- the ways parted behind n steps -/
def parted (p : Pc) (r n m e : Nat) : List Rat := (List.range p.rooms).map (fun t => p.ch r n t * p.ch t m e) ++ if p.rooms ≤ e then [p.ch r n e] else []
theorem parted_sum {r n m e : Nat} {p : Pc} (he : e < p.rooms + p.outs) : qsum (parted p r n m e) = p.ch r (n + m) e := by
  unfold parted Pc.ch
  rw [qsum_app, qsum_rs, ch_split he]
  by_cases c : p.rooms ≤ e
  · rw [if_pos c, if_pos c, qsum_cons, qsum_nil, Rat.add_zero]
  · rw [if_neg c, if_neg c, qsum_nil]
theorem parted_su {M r n m e : Nat} {p : Pc} (h : p.Ok M) (hr : r < p.rooms) (he : e < p.rooms + p.outs) : Su (M ^ n * M ^ m) (parted p r n m e) 0 where
  ds := fun q hq => by
    unfold parted at hq
    rcases List.mem_append.mp hq with hq | hq
    · obtain ⟨t, ht, rfl⟩ := List.mem_map.mp hq
      have ht := List.mem_range.mp ht
      exact ((ch_vec h hr).ds t (by omega)).mul ((ch_vec h ht).ds e he)
    · by_cases c : p.rooms ≤ e
      · rw [if_pos c] at hq
        rcases List.mem_singleton.mp hq with rfl
        exact ((ch_vec h hr).ds e he).up (Nat.dvd_mul_right ..)
      · rw [if_neg c] at hq
        cases hq
  lo := fun q hq => by
    unfold parted at hq
    rcases List.mem_append.mp hq with hq | hq
    · obtain ⟨t, ht, rfl⟩ := List.mem_map.mp hq
      have ht := List.mem_range.mp ht
      exact Rat.mul_nonneg ((ch_vec h hr).lo t (by omega)) ((ch_vec h ht).lo e he)
    · by_cases c : p.rooms ≤ e
      · rw [if_pos c] at hq
        rcases List.mem_singleton.mp hq with rfl
        exact (ch_vec h hr).lo e he
      · rw [if_neg c] at hq
        cases hq
  acc := .zero
  hi := by
    rw [Rat.zero_add, parted_sum he]
    exact ((ch_vec h hr).pr he).hi
end K44
namespace K44
open Dt PySem
/-! ### a piece looked at -/
abbrev rtSt (p : Addr) (m : Dr) (q : Pc) : Ro := [.ofDr p m, .dat q.d, .dat (.lst ((mD q.rooms (q.rooms + q.outs) q.mv).map .lst)), .no, .no, .no, .no, .no, .no, .no, .no]
abbrev rtIn (p : Addr) (m : Dr) (q : Pc) (r n k : Nat) : Ro := [.ofDr p m, .dat q.d, .dat (.lst ((mD q.rooms (q.rooms + q.outs) q.mv).map .lst)), .dat (.int r), .no, .dat (.int k), .dat (.tup (rowD (q.rooms + q.outs) (q.ch r n))), .dat (.tup (rowD (q.rooms + q.outs) (q.ch r (n + k)))), .no, .no, .no]
def RightTo (n : Nat) (p : Addr) (r : Sr) : Prop := ∃ (m : Dr) (ρ : Ro), Dn n m ∧ r = .rt (.dat (.bl true)) ρ ∧ ρ.getD 0 .no = .ofDr p m
theorem pow60 {n : Nat} (h : n ≤ 20) : 60 ^ n < 2 ^ 4000 := by
  have h1 : 60 ^ n ≤ 60 ^ 20 := Nat.pow_le_pow_right (by decide) h
  have h2 : (60 : Nat) ^ 20 < 2 ^ 200 := by decide
  have h3 : (2 : Nat) ^ 200 ≤ 2 ^ 4000 := Nat.pow_le_pow_right (by decide) (by decide)
  exact Nat.lt_of_le_of_lt h1 (Nat.lt_of_lt_of_le h2 h3)
theorem d_right {n : Nat} {p : Addr} {m : Dr} {q : Pc} (h : Dn n m) (hn : n + 100 < 2 ^ 40) (hq : q.Ok 60) (hR : q.rooms ≤ 6) : ∃ m', Dn (n + 100) m' ∧ φ__law_right p m [q.d] = .rt (.dat (.bl true)) m' := by
  have good : RightTo (n + 100) p (f__law_right (entM 11 p m [q.d])) := by
    have r3 := hq.outs
    have e1 := l_moves hq (by decide) (by decide)
    unfold f__law_right
    refine seq_to (by simp [e1]; rfl) ?_
    refine seq_ex (for_nxx (fun k ρ => ∃ m, ρ = rtSt p m q ∧ Dn (n + 2 * k) m) (by simp (disch := first | omega | (simp; done) | (simp; omega)) [lim, if_pos]; exact ⟨rfl, rfl⟩) (by rfl) ⟨m, by simp, h⟩ ?_) ?_
    · rintro r _ hr ⟨m, rfl, hm⟩
      refine ⟨_, by simp; rfl, ?_⟩
      obtain ⟨i, m1, hi, h1, e1⟩ := d_nx 8 p hm (by omega) (by omega) (by omega)
      obtain ⟨k, m2, hk, h2, e2⟩ := d_nx 6 p h1 (by omega) (by omega) (by omega)
      have w1 := m_chances_behind (many := i) hq (by decide) (by decide) hr (by omega) (pow60 (by omega))
      have w2 := l_behind (many := i) hq (by decide) (by decide) hr (by omega) (pow60 (by omega))
      have w3 := m_chances_behind (many := i + k) hq (by decide) (by decide) hr (by omega) (pow60 (by omega))
      have w4 := l_like_row (N := q.rooms + q.outs) (f := q.ch r i) (by omega)
      have ek : ((i + k : Nat) : Int) = (i : Int) + k := by omega
      rw [ek] at w3
      have ws : ∀ a b c : D, sel [2, 1, 0] 0 3 [] [a, b, c] = [c, b, a] := fun _ _ _ => rfl
      refine seq_to (by simp [e1, e2]; rfl) ?_
      refine seq_to (by simp [ws, w1]; rfl) ?_
      refine seq_to (by simp [w2, w4]; rfl) ?_
      refine seq_to (by simp [w3]; rfl) ?_
      refine (Nx.of (for_nxt (fun e => rtIn p m2 q r i k) (by simp (disch := first | omega | (simp; done) | (simp; omega)) [lim, if_pos]; exact ⟨rfl, rfl⟩) (by rfl) (by simp) fun e he => ⟨_, by simp; rfl, ?_⟩) ⟨m2, by simp, h2.mono (by omega)⟩)
      have hlc : lcGo [10] (bName 10) fYes (fFz (fCallD φ__law_times (fCons (fIx (fAt 6) (fVar 10)) (fCons (fIx (fVal (fFz (fCallD φ_chances_behind (fCons (fVar 1) (fCons (fVar 10) (fCons (fVar 5) fNil)))))) (fVar 8)) fNil)))) ((List.range q.rooms).map fun i => .int (i : Nat)) []
            [.ofDr p m2, .dat q.d, .dat (.lst ((mD q.rooms (q.rooms + q.outs) q.mv).map .lst)), .dat (.int r), .no, .dat (.int k), .dat (.tup (rowD (q.rooms + q.outs) (q.ch r i))), .dat (.tup (rowD (q.rooms + q.outs) (q.ch r (i + k)))), .dat (.int e), .no, .no] =
          some ((List.range q.rooms).map fun t => Sh (q.ch r i t * q.ch t k e), [.ofDr p m2, .dat q.d, .dat (.lst ((mD q.rooms (q.rooms + q.outs) q.mv).map .lst)), .dat (.int r), .no, .dat (.int k), .dat (.tup (rowD (q.rooms + q.outs) (q.ch r i))), .dat (.tup (rowD (q.rooms + q.outs) (q.ch r (i + k)))), .dat (.int e), .no, .no]) := by
        rw [lc_all (fun i : Nat => .int i) (fun t => Sh (q.ch r i t * q.ch t k e)) (List.range q.rooms) [] fun t ht => ?_]
        · rfl
        · have ht := List.mem_range.mp ht
          have y1 := m_chances_behind (many := k) hq (by decide) (by decide) ht (by omega) (pow60 (by omega))
          have y2 := l_times (n := 4000) (ch_sz (n := i) hq (by decide) hr (show t < q.rooms + q.outs by omega) (pow60 (by omega))) (ch_sz (n := k) hq (by decide) ht he (pow60 (by omega))) (Nat.le_refl _)
          have g1 := rowD_get (N := q.rooms + q.outs) (f := q.ch r i) (show t < q.rooms + q.outs by omega)
          have g2 := rowD_get (N := q.rooms + q.outs) (f := q.ch t k) he
          exact ⟨_, _, by simp; rfl, by simp [y1, y2, g1, g2] <;> rfl, by simp⟩
      simp only [Sl.ofDr] at hlc
      have g1 := rowD_get (N := q.rooms + q.outs) (f := q.ch r i) he
      have g2 := rowD_get (N := q.rooms + q.outs) (f := q.ch r (i + k)) he
      have y3 := l_sum (n := 4000) (Nat.le_refl _) (by rw [← Nat.pow_add]; exact pow60 (by omega)) (Nat.mul_pos (Nat.pow_pos (by decide)) (Nat.pow_pos (by decide))) (parted_su (n := i) (m := k) hq hr he)
      rw [parted_sum he] at y3
      refine seq_to (by simp (disch := first | omega | (simp; done) | (simp; omega)) [hlc, lim, if_pos, -List.map_map]; rfl) ?_
      by_cases c : q.rooms ≤ e
      · unfold parted at y3
        rw [if_pos c, List.map_append, List.map_map, List.map_cons, List.map_nil] at y3
        change φ__law_sum [.lst (((List.range q.rooms).map fun t => Sh (q.ch r i t * q.ch t k e)) ++ [Sh (q.ch r i e)])] = _ at y3
        obtain ⟨x, hx, y4⟩ := m_arrivals_of (m := 6) hq (by decide) (by decide) (by decide) (by
          refine Nat.le_trans (bits_le (m := 6) hR) ?_
          decide) c he
        have g3 := rowD_get (N := q.rooms) (f := x) hr
        have z1 := ch_sz (n := i) hq (by decide) hr he (pow60 (by omega))
        have z2 := ch_sz (n := i + k) hq (by decide) hr he (pow60 (by omega))
        have y5 := l_is_less (n := 4000) z2 z1 (Nat.le_refl _)
        have y6 := l_is_less (n := 4000) (hx.sz r) z2 (Nat.le_refl _)
        have b5 : decide (q.ch r (i + k) e < q.ch r i e) = false := decide_eq_false (Rat.not_lt.mpr (ch_grow hq.mat hr c he k))
        have b6 : decide (x r < q.ch r (i + k) e) = false := decide_eq_false (Rat.not_lt.mpr (ch_arrive hq.mat c he (fun s _ => hx.pos s) hx.eq (i + k) r hr))
        rw [b5] at y5
        rw [b6] at y6
        have c' : (q.rooms : Int) ≤ e := by omega
        refine seq_to (by simp (disch := first | omega | (simp; done) | (simp; omega)) [g1, g2, y3, c, c', lim, if_pos, -List.map_map]; rfl) ?_
        refine Nx.of (by simp [g1, g2, g3, y4, y5, y6, c, c']; rfl) (by simp)
      · have c' : ¬ (q.rooms : Int) ≤ e := by omega
        unfold parted at y3
        rw [if_neg c, List.append_nil, List.map_map] at y3
        change φ__law_sum [.lst ((List.range q.rooms).map fun t => Sh (q.ch r i t * q.ch t k e))] = _ at y3
        refine seq_to (by simp (disch := first | omega | (simp; done) | (simp; omega)) [g1, g2, y3, c, c', lim, if_pos, -List.map_map]; rfl) ?_
        refine Nx.of (by simp [c, c']; rfl) (by simp)
    · rintro _ ⟨m, rfl, hm⟩
      exact ⟨m, _, hm.mono (by omega), by simp; rfl, by simp⟩
  obtain ⟨m', ρ, h1, h2, h3⟩ := good
  refine ⟨m', h1, ?_⟩
  show runM 11 f__law_right p _ _ = _
  unfold runM
  rw [h2]
  simp only [h3]
  simp
end K44
namespace K44
open Dt PySem PyProof.Rows L2
/-! ### the law -/
structure Shown (d : D) : Prop where
  ok : (d.pl && pyOk d.py) = true
  q : (D.str d.py.shown).okq = true
theorem Shown.eq {d : D} (_ : Shown d) : eqD (.str d.py.shown) (.str d.py.shown) = true := eqD_refl rfl
theorem shown_nat {n : Nat} (h : n ≤ 6) : Shown (.int n) := by
  have : n = 0 ∨ n = 1 ∨ n = 2 ∨ n = 3 ∨ n = 4 ∨ n = 5 ∨ n = 6 := by omega
  rcases this with rfl | rfl | rfl | rfl | rfl | rfl | rfl <;> exact ⟨by decide +kernel, by decide +kernel⟩
theorem shown_bad : ∀ d ∈ [D.int (-1), .int 201, .bl true, .non, .str "0", .tup [.int 0], .str "3", .tup [.int 1]], Shown d := by
  intro d hd
  simp at hd
  rcases hd with rfl | rfl | rfl | rfl | rfl | rfl | rfl | rfl <;> exact ⟨by decide +kernel, by decide +kernel⟩
/-! the coin -/
def coin : Pc := ⟨1, 0, [⟨0, 0, 0, 1 / 2⟩, ⟨0, 0, 1, 1 / 2⟩], [], 1⟩
theorem half_pr : Pr 2 (1 / 2) := ⟨⟨1, by decide +kernel⟩, by decide +kernel, by decide +kernel⟩
theorem coin_ok : coin.Ok 2 where
  rooms := by decide
  signs := by decide
  outs := by decide
  nins := by decide
  ins := fun i hi => by cases hi
  nsteps := by decide
  steps := fun t ht => by
    rcases List.mem_cons.mp ht with rfl | ht
    · exact ⟨by decide, by decide, by decide, by decide +kernel, half_pr⟩
    · rcases List.mem_singleton.mp ht with rfl
      exact ⟨by decide, by decide, by decide, by decide +kernel, half_pr⟩
  sum := fun r hr => by
    have : r = 0 := by
      have : r < 1 := hr
      omega
    subst this
    decide +kernel
theorem coin_d : coin.d = .tup [.int 1, .int 0, .tup [.tup [.int 0, .int 0, .int 0, .tup [.int 1, .int 2]], .tup [.int 0, .int 0, .int 1, .tup [.int 1, .int 2]]], .tup [], .int 1] := by
  have h : Sh (1 / 2) = .tup [.int 1, .int 2] := by
    have e1 : ((1 : Rat) / 2).num = 1 := by decide +kernel
    have e2 : ((1 : Rat) / 2).den = 2 := by decide +kernel
    unfold Sh
    rw [e1, e2]
    rfl
  show D.tup [.int 1, .int 0, .tup [.tup [.int 0, .int 0, .int 0, Sh (1 / 2)], .tup [.int 0, .int 0, .int 1, Sh (1 / 2)]], .tup [], .int 1] = _
  rw [h]
theorem coin_mv : coin.mv 0 0 = 1 / 2 ∧ coin.mv 0 1 = 1 / 2 := ⟨by decide +kernel, by decide +kernel⟩
theorem coin_ch : ∀ n : Nat, coin.ch 0 n 0 * ((2 ^ n : Nat) : Rat) = 1 ∧ coin.ch 0 n 0 + coin.ch 0 n 1 = 1
  | 0 => ⟨by decide +kernel, by decide +kernel⟩
  | n + 1 => by
    obtain ⟨h1, h2⟩ := coin_ch n
    have e0 : coin.ch 0 (n + 1) 0 = 0 + (0 + coin.ch 0 n 0 * coin.mv 0 0) := rfl
    have e1 : coin.ch 0 (n + 1) 1 = coin.ch 0 n 1 + (0 + coin.ch 0 n 0 * coin.mv 0 1) := rfl
    rw [coin_mv.1] at e0
    rw [coin_mv.2] at e1
    have e2 : ((2 ^ (n + 1) : Nat) : Rat) = ((2 ^ n : Nat) : Rat) * 2 := by
      rw [Nat.pow_succ]
      exact_mod_cast rfl
    rw [e0, e1, e2]
    constructor <;> grind
theorem coin_as {n P : Nat} (hP : P = 2 ^ n) : coin.ch 0 n 0 = Rat.divInt 1 P ∧ coin.ch 0 n 1 = Rat.divInt ((P : Int) - 1) P := by
  obtain ⟨h1, h2⟩ := coin_ch n
  rw [← hP] at h1
  have p : (P : Rat) ≠ 0 := by
    intro c
    rw [c, Rat.mul_zero] at h1
    exact absurd h1 (by decide +kernel)
  have e : ((P : Int) : Rat) = (P : Rat) := by exact_mod_cast rfl
  rw [Rat.divInt_eq_div, Rat.divInt_eq_div, Rat.intCast_sub, e]
  constructor
  · have : ((1 : Int) : Rat) = 1 := rfl
    rw [this]
    grind
  · have : ((1 : Int) : Rat) = 1 := rfl
    rw [this]
    grind
theorem coin_200 : rowD 2 (coin.ch 0 200) = [.tup [.int 1, .int ((2 ^ 200 : Nat) : Int)], .tup [.int (((2 ^ 200 : Nat) : Int) - 1), .int ((2 ^ 200 : Nat) : Int)]] := by
  obtain ⟨e0, e1⟩ := coin_as (n := 200) rfl
  show [Sh (coin.ch 0 200 0), Sh (coin.ch 0 200 1)] = _
  rw [e0, e1]
  have n0 : (Rat.divInt 1 ((2 ^ 200 : Nat) : Int)).num = 1 := by decide +kernel
  have d0 : (Rat.divInt 1 ((2 ^ 200 : Nat) : Int)).den = 2 ^ 200 := by decide +kernel
  have n1 : (Rat.divInt (((2 ^ 200 : Nat) : Int) - 1) ((2 ^ 200 : Nat) : Int)).num = ((2 ^ 200 : Nat) : Int) - 1 := by decide +kernel
  have d1 : (Rat.divInt (((2 ^ 200 : Nat) : Int) - 1) ((2 ^ 200 : Nat) : Int)).den = 2 ^ 200 := by decide +kernel
  unfold Sh
  rw [n0, d0, n1, d1]
theorem coin_0 : rowD 2 (coin.ch 0 0) = [.tup [.int 1, .int 1], .tup [.int 0, .int 1]] := rfl
theorem coin_behind {n : Nat} (h : n ≤ 200) : φ_chances_behind [coin.d, .int 0, .int n] = .rt (.dat (.tup (rowD 2 (coin.ch 0 n)))) :=
  m_chances_behind (r := 0) coin_ok (by decide) (by decide) (by decide) h (Nat.pow_lt_pow_right (by decide) (Nat.lt_of_le_of_lt (Nat.add_le_add_right h 1) (by decide)))
theorem coin_bad {d : D} (h : φ_is_among [d, .int 0, .int 200] = .rt (.dat (.bl false))) : φ_chances_behind [coin.d, .int 0, d] = .ex 2 d :=
  m_many_bad (r := 0) coin_ok (by decide) (by decide) (by decide) h
theorem try_to {i n : Nat} {cat : Nat → Option Bool} {f g : Fs} {ρ ρ1 ρ2 : Ro} {d : D} (hf : f ρ = .ex n d ρ1) (hc : cat n = some true) (hi : i < ρ1.length) (hx : ρ1.all Sl.nex = true) (hg : g (ρ1.set i (.exc n d)) = .nx ρ2) (hx2 : (ρ2.set i .no).all Sl.nex = true) : fTry i cat f g ρ = .nx (ρ2.set i .no) := by
  unfold fTry
  simp only [hf, hc]
  rw [if_pos ⟨hi, hx⟩, hg]
  simp only
  rw [if_pos hx2]
theorem fig (b : Bool) : isI (.bl b) = false ∧ noF (.bl b) = true := ⟨rfl, rfl⟩
def pw (k : Nat) : Int := ((2 ^ k : Nat) : Int)
theorem pw_ok {k : Nat} (h : k < 200) : mulOk 2 (pw k) = true := Bt.mulOk (n := 10) (k := k + 1) (by unfold Bt; decide) (by
  unfold Bt pw
  rw [Int.natAbs_natCast]
  exact Nat.pow_lt_pow_right (by decide) (Nat.lt_succ_self k)) (by omega)
theorem pw_succ {k : Nat} : 2 * pw k = pw (k + 1) := by
  unfold pw
  rw [Nat.pow_succ, Int.natCast_mul, Int.mul_comm]
  rfl
abbrev lwSt (p : Addr) (m : Dr) (s3 : Sl) : Ro := [.no, .ofDr p m, .no, s3, .no, .no, .no, .no]
def Told (r : Sr) : Prop := ∃ ρ, r = .rt (.dat (.bl true)) ρ
theorem good : ∀ (p : Addr) (ns : List Int), ns.length ≤ 63 → ∃ ρ', f_law (entL 8 1 p (begun ns)) = .rt (.dat (.bl true)) ρ' := by
  intro p ns _
  show Told _
  unfold f_law
  refine seq_ex (for_nxx (fun k ρ => ∃ m, ρ = lwSt p m .no ∧ Dn (5000 * k) m) (by simp (disch := first | omega | (simp; done) | (simp; omega)) [lim, if_pos]; exact ⟨rfl, rfl⟩) (by rfl) ⟨begun ns, by simp, by unfold begun; exact ⟨Int.le_refl _, Int.le_refl _⟩⟩ ?_) ?_
  · rintro k _ hk ⟨m, rfl, hm⟩
    refine ⟨_, by simp; rfl, ?_⟩
    obtain ⟨q1, m1, o1, a1, b1, h1, e1⟩ := d_room (most := 5) (p := p) hm (by omega) (by omega)
    obtain ⟨m2, h2, e2⟩ := d_right (p := p) h1 (by omega) o1 (by omega)
    obtain ⟨q3, m3, o3, a3, b3, h3, e3⟩ := d_ring (most := 5) (p := p) h2 (by omega) (by omega)
    obtain ⟨m4, h4, e4⟩ := d_right (p := p) h3 (by omega) o3 (by omega)
    change φ__law_room_piece p m [.int 5] = _ at e1
    change φ__law_ring_piece p m2 [.int 5] = _ at e3
    refine seq_to (by simp [e1]; rfl) ?_
    refine seq_to (by simp [e2, e3, e4]; rfl) ?_
    refine Nx.of (for_nxf (enc := id) (xs := [.int (-1), .int q1.rooms, .bl true, .non, .str "0", .tup [.int 0]]) (a := ()) (fun _ => lwSt p m4 (.dat q1.d)) (fun _ _ => ()) (fun xs _ => ∀ d ∈ xs, Shown d ∧ φ_chances_behind [q1.d, d, .non] = .ex 2 d) (by simp; exact ⟨rfl, rfl⟩) (by rfl) (by simp) ?_ ?_) ⟨m4, by simp, h4.mono (by omega)⟩
    · intro d hd
      refine ⟨?_, m_behind_bad o1 (by decide) (by decide) ?_⟩
      · simp at hd
        rcases hd with rfl | rfl | rfl | rfl | rfl | rfl
        · exact shown_bad _ (by simp)
        · exact shown_nat (by omega)
        · exact shown_bad _ (by simp)
        · exact shown_bad _ (by simp)
        · exact shown_bad _ (by simp)
        · exact shown_bad _ (by simp)
      · simp at hd
        rcases hd with rfl | rfl | rfl | rfl | rfl | rfl
        · rw [m_is_among_int]; rfl
        · rw [m_is_among_int]; simp; omega
        · exact m_is_among_no _ _ rfl rfl
        · exact m_is_among_no _ _ rfl rfl
        · exact m_is_among_no _ _ rfl rfl
        · exact m_is_among_no _ _ rfl rfl
    · rintro d xs _ hd
      obtain ⟨hs, hx⟩ := hd d (List.mem_cons_self ..)
      obtain ⟨s1, s2⟩ := Bool.and_eq_true_iff.mp hs.ok
      have sq := hs.q
      have se := hs.eq
      refine ⟨fun x h => hd x (List.mem_cons_of_mem _ h), _, by simp; rfl, ?_⟩
      refine Nx.of (try_to (d := d) (n := 2) (by simp [hx]; rfl) rfl (by simp) (by simp [Sl.nex]) (by simp [s1, s2, sq, se]; rfl) (by simp [Sl.nex])) (by simp)
  · rintro _ ⟨m, rfl, hm⟩
    refine seq_to (ρ' := [.no, .ofDr p m, .no, .no, .no, .no, .dat coin.d, .dat (.int (pw 0))]) (by rw [coin_d]; simp; rfl) ?_
    refine seq_to (for_nxf (enc := id) (xs := [.int (-1), .int 201, .bl true, .non, .str "3", .tup [.int 1]]) (a := ()) (fun _ => [.no, .no, .no, .no, .no, .no, .dat coin.d, .dat (.int (pw 0))]) (fun _ _ => ()) (fun xs _ => ∀ d ∈ xs, Shown d ∧ φ_chances_behind [coin.d, .int 0, d] = .ex 2 d) (by simp; exact ⟨rfl, rfl⟩) (by rfl) (by simp) ?_ ?_) ?_
    · intro d hd
      refine ⟨?_, coin_bad ?_⟩
      · simp at hd
        rcases hd with rfl | rfl | rfl | rfl | rfl | rfl <;> exact shown_bad _ (by simp)
      · simp at hd
        rcases hd with rfl | rfl | rfl | rfl | rfl | rfl
        · rw [m_is_among_int]; rfl
        · rw [m_is_among_int]; rfl
        · exact m_is_among_no _ _ rfl rfl
        · exact m_is_among_no _ _ rfl rfl
        · exact m_is_among_no _ _ rfl rfl
        · exact m_is_among_no _ _ rfl rfl
    · rintro d xs _ hd
      obtain ⟨hs, hx⟩ := hd d (List.mem_cons_self ..)
      obtain ⟨s1, s2⟩ := Bool.and_eq_true_iff.mp hs.ok
      have sq := hs.q
      have se := hs.eq
      refine ⟨fun x h => hd x (List.mem_cons_of_mem _ h), _, by simp; rfl, ?_⟩
      refine Nx.of (try_to (d := d) (n := 2) (by simp [hx]; rfl) rfl (by simp) (by simp [Sl.nex]) (by simp [s1, s2, sq, se]; rfl) (by simp [Sl.nex])) (by simp)
    · refine seq_to (for_nxt (n := 200) (fun k => [.no, .no, .no, .no, .no, .no, .dat coin.d, .dat (.int (pw k))]) (by simp (disch := first | omega | (simp; done) | (simp; omega)) [lim, if_pos]; exact ⟨rfl, rfl⟩) (by rfl) (by simp) fun k hk => ⟨_, by simp; rfl, ?_⟩) ?_
      · refine Nx.of (by simp [oMul_ok (pw_ok hk), pw_succ, -mulOk]; rfl) (by simp)
      · have y1 := coin_behind (n := 0) (by decide)
        have y2 := coin_behind (n := 200) (by decide)
        rw [coin_0] at y1
        rw [coin_200] at y2
        change φ_chances_behind [coin.d, .int 0, .int 0] = _ at y1
        change φ_chances_behind [coin.d, .int 0, .int 200] = .rt (.dat (.tup [.tup [.int 1, .int (pw 200)], .tup [.int (pw 200 - 1), .int (pw 200)]])) at y2
        have hs : ∀ a b : Int, Tr 1 (.tup [.int a, .int b]) := fun a b => .tup (fun d hd => by
          simp at hd
          rcases hd with rfl | rfl <;> exact .int) (by simp)
        have hr : ∀ a b c d : Int, Tr 2 (.tup [.tup [.int a, .int b], .tup [.int c, .int d]]) := fun a b c d => .tup (fun x hx => by
          simp at hx
          rcases hx with rfl | rfl <;> exact hs _ _) (by simp)
        have y3 := l_like (n := 3) (d := .tup [.tup [.tup [.int 1, .int 1], .tup [.int 0, .int 1]], .tup [.tup [.int 1, .int (pw 200)], .tup [.int (pw 200 - 1), .int (pw 200)]]]) (.tup (fun x hx => by
          simp at hx
          rcases hx with rfl | rfl <;> exact hr _ _ _ _) (by simp)) 6 (by decide) (by decide)
        exact ⟨_, by simp [y1, y2, y3]; rfl⟩
end K44
open PySem PySem.W PyProof.Rows in
set_option maxRecDepth 100000 in
set_option maxHeartbeats 0 in
theorem PySem.Challenge.cw_oddsrooms_k44_whole_chances_behind_steps_holds : PySem.Challenge.rw_oddsrooms_k44_whole_chances_behind_steps.Holds := by
  w_on; o_law; k_head; (case hw => w_witness2)
  k_fill
  refine Dt.walkG (l := PySem.Challenge.rw_oddsrooms_k44_whole_chances_behind_steps) (n := 63) (k := 10) (x := "script") rfl (by decide) rfl ⟨rfl, by decide, by decide⟩ (fun w h Y => PySem.W.kIn_of Y) ?F
  intro w mg fa h KX G XG hmg
  replace hmg : mg "law" = some (.ref fa) := hmg
  refine' K44.all_mk K44.good KX G hmg (Dt.fnF_mk ?a0 ?l0 ?c0 ?k0) (Dt.fnF_mk ?a1 ?l1 ?c1 ?k1) (Dt.fnF_mk ?a2 ?l2 ?c2 ?k2) (Dt.fnF_mk ?a3 ?l3 ?c3 ?k3) (Dt.fnF_mk ?a4 ?l4 ?c4 ?k4) (Dt.fnF_mk ?a5 ?l5 ?c5 ?k5) (Dt.fnF_mk ?a6 ?l6 ?c6 ?k6) (Dt.fnF_mk ?a7 ?l7 ?c7 ?k7) (Dt.fnF_mk ?a8 ?l8 ?c8 ?k8) (Dt.fnF_mk ?a9 ?l9 ?c9 ?k9) (Dt.fnF_mk ?a10 ?l10 ?c10 ?k10) (Dt.fnF_mk ?a11 ?l11 ?c11 ?k11) (Dt.fnF_mk ?a12 ?l12 ?c12 ?k12) (Dt.fnF_mk ?a13 ?l13 ?c13 ?k13) (Dt.fnF_mk ?a14 ?l14 ?c14 ?k14) (Dt.fnF_mk ?a15 ?l15 ?c15 ?k15) (Dt.fnF_mk ?a16 ?l16 ?c16 ?k16) (Dt.fnF_mk ?a17 ?l17 ?c17 ?k17) (Dt.fnF_mk ?a18 ?l18 ?c18 ?k18) (Dt.fnF_mk ?a19 ?l19 ?c19 ?k19) (Dt.fnF_mk ?a20 ?l20 ?c20 ?k20) (Dt.fnF_mk ?a21 ?l21 ?c21 ?k21) (Dt.fnF_mk ?a22 ?l22 ?c22 ?k22) (Dt.fnF_mk ?a23 ?l23 ?c23 ?k23) (Dt.fnF_mk ?a24 ?l24 ?c24 ?k24) (Dt.fnF_mk ?a25 ?l25 ?c25 ?k25) (Dt.fnF_mk ?a26 ?l26 ?c26 ?k26) (Dt.fnF_mk ?a27 ?l27 ?c27 ?k27) (Dt.fnF_mk ?a28 ?l28 ?c28 ?k28) (Dt.fnF_mk ?a29 ?l29 ?c29 ?k29) (Dt.fnF_mk ?a30 ?l30 ?c30 ?k30) (Dt.fnF_mk ?a31 ?l31 ?c31 ?k31) (Dt.fnF_mk ?a32 ?l32 ?c32 ?k32) (Dt.fnF_mk ?a33 ?l33 ?c33 ?k33) (Dt.fnF_mk ?a34 ?l34 ?c34 ?k34) (Dt.fnF_mk ?a35 ?l35 ?c35 ?k35) (Dt.fnF_mk ?a36 ?l36 ?c36 ?k36) (Dt.fnF_mk ?a37 ?l37 ?c37 ?k37) (Dt.fnF_mk ?a38 ?l38 ?c38 ?k38) (Dt.fnF_mk ?a39 ?l39 ?c39 ?k39) (Dt.fnF_mk ?a40 ?l40 ?c40 ?k40) (Dt.fnF_mk ?a41 ?l41 ?c41 ?k41) ?n_abs ?n_all ?n_any ?n_bool ?n_enumerate ?n_int ?n_isinstance ?n_len ?n_list ?n_range ?n_repr ?n_sorted ?n_str ?n_super ?n_tuple ?n_zip (Dt.glT (ns := [0, 1]) KX G ?gz_ZERO ?gl_ZERO ?gh_ZERO (by decide)) (Dt.glT (ns := [1, 1]) KX G ?gz_ONE ?gl_ONE ?gh_ONE (by decide)) (Dt.glL XG (List.Mem.head _)) (Dt.glI KX G ?gz_MOST_ROOMS) (Dt.glI KX G ?gz_MOST_SIGNS) (Dt.glI KX G ?gz_MOST_STEPS) (Dt.glI KX G ?gz_MOST_DOORS) (Dt.glI KX G ?gz_MOST_BEHIND) ?y0 (Dt.x_mk ?xL0 ?hb0 ?sa0 ?noN0 ?iC0 ?tC0 ?kC0 ?exC0 ?tyC0 ?up0 ?veC0 ?any0 ?own0 ?top0 ?lI0 ?cI0 ?lc0 ?hvs0 ?hf0 ?lcc0 ?ev0) ?y1 (Dt.x_mk ?xL1 ?hb1 ?sa1 ?noN1 ?iC1 ?tC1 ?kC1 ?exC1 ?tyC1 ?up1 ?veC1 ?any1 ?own1 ?top1 ?lI1 ?cI1 ?lc1 ?hvs1 ?hf1 ?lcc1 ?ev1) ?y2 (Dt.x_mk ?xL2 ?hb2 ?sa2 ?noN2 ?iC2 ?tC2 ?kC2 ?exC2 ?tyC2 ?up2 ?veC2 ?any2 ?own2 ?top2 ?lI2 ?cI2 ?lc2 ?hvs2 ?hf2 ?lcc2 ?ev2) ?ga2 ?gg2 ?eC2 ?hd2 ?xn2 ?ic2 ?ty2 ?sb0_2 ?sb1_2 ?sb2_2
  (case y2 => first | k_is | exact rfl | decide +kernel | exact fun env => ⟨_, rfl⟩); (case y1 => first | k_is | exact rfl | decide +kernel | exact fun env => ⟨_, rfl⟩); (case y0 => first | k_is | exact rfl | decide +kernel | exact fun env => ⟨_, rfl⟩); (case a0 => first | k_is | exact rfl | decide +kernel | exact fun env => ⟨_, rfl⟩); (case l0 => first | k_is | exact rfl | decide +kernel | exact fun env => ⟨_, rfl⟩); (case c0 => first | k_is | exact rfl | decide +kernel | exact fun env => ⟨_, rfl⟩); (case k0 => first | k_is | exact rfl | decide +kernel | exact fun env => ⟨_, rfl⟩); (case a1 => first | k_is | exact rfl | decide +kernel | exact fun env => ⟨_, rfl⟩)
  (case l1 => first | k_is | exact rfl | decide +kernel | exact fun env => ⟨_, rfl⟩); (case c1 => first | k_is | exact rfl | decide +kernel | exact fun env => ⟨_, rfl⟩); (case k1 => first | k_is | exact rfl | decide +kernel | exact fun env => ⟨_, rfl⟩); (case a2 => first | k_is | exact rfl | decide +kernel | exact fun env => ⟨_, rfl⟩); (case l2 => first | k_is | exact rfl | decide +kernel | exact fun env => ⟨_, rfl⟩); (case c2 => first | k_is | exact rfl | decide +kernel | exact fun env => ⟨_, rfl⟩); (case k2 => first | k_is | exact rfl | decide +kernel | exact fun env => ⟨_, rfl⟩); (case a3 => first | k_is | exact rfl | decide +kernel | exact fun env => ⟨_, rfl⟩)
  (case l3 => first | k_is | exact rfl | decide +kernel | exact fun env => ⟨_, rfl⟩); (case c3 => first | k_is | exact rfl | decide +kernel | exact fun env => ⟨_, rfl⟩); (case k3 => first | k_is | exact rfl | decide +kernel | exact fun env => ⟨_, rfl⟩); (case a4 => first | k_is | exact rfl | decide +kernel | exact fun env => ⟨_, rfl⟩); (case l4 => first | k_is | exact rfl | decide +kernel | exact fun env => ⟨_, rfl⟩); (case c4 => first | k_is | exact rfl | decide +kernel | exact fun env => ⟨_, rfl⟩); (case k4 => first | k_is | exact rfl | decide +kernel | exact fun env => ⟨_, rfl⟩); (case a5 => first | k_is | exact rfl | decide +kernel | exact fun env => ⟨_, rfl⟩)
  (case l5 => first | k_is | exact rfl | decide +kernel | exact fun env => ⟨_, rfl⟩); (case c5 => first | k_is | exact rfl | decide +kernel | exact fun env => ⟨_, rfl⟩); (case k5 => first | k_is | exact rfl | decide +kernel | exact fun env => ⟨_, rfl⟩); (case a6 => first | k_is | exact rfl | decide +kernel | exact fun env => ⟨_, rfl⟩); (case l6 => first | k_is | exact rfl | decide +kernel | exact fun env => ⟨_, rfl⟩); (case c6 => first | k_is | exact rfl | decide +kernel | exact fun env => ⟨_, rfl⟩); (case k6 => first | k_is | exact rfl | decide +kernel | exact fun env => ⟨_, rfl⟩); (case a7 => first | k_is | exact rfl | decide +kernel | exact fun env => ⟨_, rfl⟩)
  (case l7 => first | k_is | exact rfl | decide +kernel | exact fun env => ⟨_, rfl⟩); (case c7 => first | k_is | exact rfl | decide +kernel | exact fun env => ⟨_, rfl⟩); (case k7 => first | k_is | exact rfl | decide +kernel | exact fun env => ⟨_, rfl⟩); (case a8 => first | k_is | exact rfl | decide +kernel | exact fun env => ⟨_, rfl⟩); (case l8 => first | k_is | exact rfl | decide +kernel | exact fun env => ⟨_, rfl⟩); (case c8 => first | k_is | exact rfl | decide +kernel | exact fun env => ⟨_, rfl⟩); (case k8 => first | k_is | exact rfl | decide +kernel | exact fun env => ⟨_, rfl⟩); (case a9 => first | k_is | exact rfl | decide +kernel | exact fun env => ⟨_, rfl⟩)
  (case l9 => first | k_is | exact rfl | decide +kernel | exact fun env => ⟨_, rfl⟩); (case c9 => first | k_is | exact rfl | decide +kernel | exact fun env => ⟨_, rfl⟩); (case k9 => first | k_is | exact rfl | decide +kernel | exact fun env => ⟨_, rfl⟩); (case a10 => first | k_is | exact rfl | decide +kernel | exact fun env => ⟨_, rfl⟩); (case l10 => first | k_is | exact rfl | decide +kernel | exact fun env => ⟨_, rfl⟩); (case c10 => first | k_is | exact rfl | decide +kernel | exact fun env => ⟨_, rfl⟩); (case k10 => first | k_is | exact rfl | decide +kernel | exact fun env => ⟨_, rfl⟩); (case a11 => first | k_is | exact rfl | decide +kernel | exact fun env => ⟨_, rfl⟩)
  (case l11 => first | k_is | exact rfl | decide +kernel | exact fun env => ⟨_, rfl⟩); (case c11 => first | k_is | exact rfl | decide +kernel | exact fun env => ⟨_, rfl⟩); (case k11 => first | k_is | exact rfl | decide +kernel | exact fun env => ⟨_, rfl⟩); (case a12 => first | k_is | exact rfl | decide +kernel | exact fun env => ⟨_, rfl⟩); (case l12 => first | k_is | exact rfl | decide +kernel | exact fun env => ⟨_, rfl⟩); (case c12 => first | k_is | exact rfl | decide +kernel | exact fun env => ⟨_, rfl⟩); (case k12 => first | k_is | exact rfl | decide +kernel | exact fun env => ⟨_, rfl⟩); (case a13 => first | k_is | exact rfl | decide +kernel | exact fun env => ⟨_, rfl⟩)
  (case l13 => first | k_is | exact rfl | decide +kernel | exact fun env => ⟨_, rfl⟩); (case c13 => first | k_is | exact rfl | decide +kernel | exact fun env => ⟨_, rfl⟩); (case k13 => first | k_is | exact rfl | decide +kernel | exact fun env => ⟨_, rfl⟩); (case a14 => first | k_is | exact rfl | decide +kernel | exact fun env => ⟨_, rfl⟩); (case l14 => first | k_is | exact rfl | decide +kernel | exact fun env => ⟨_, rfl⟩); (case c14 => first | k_is | exact rfl | decide +kernel | exact fun env => ⟨_, rfl⟩); (case k14 => first | k_is | exact rfl | decide +kernel | exact fun env => ⟨_, rfl⟩); (case a15 => first | k_is | exact rfl | decide +kernel | exact fun env => ⟨_, rfl⟩)
  (case l15 => first | k_is | exact rfl | decide +kernel | exact fun env => ⟨_, rfl⟩); (case c15 => first | k_is | exact rfl | decide +kernel | exact fun env => ⟨_, rfl⟩); (case k15 => first | k_is | exact rfl | decide +kernel | exact fun env => ⟨_, rfl⟩); (case a16 => first | k_is | exact rfl | decide +kernel | exact fun env => ⟨_, rfl⟩); (case l16 => first | k_is | exact rfl | decide +kernel | exact fun env => ⟨_, rfl⟩); (case c16 => first | k_is | exact rfl | decide +kernel | exact fun env => ⟨_, rfl⟩); (case k16 => first | k_is | exact rfl | decide +kernel | exact fun env => ⟨_, rfl⟩); (case a17 => first | k_is | exact rfl | decide +kernel | exact fun env => ⟨_, rfl⟩)
  (case l17 => first | k_is | exact rfl | decide +kernel | exact fun env => ⟨_, rfl⟩); (case c17 => first | k_is | exact rfl | decide +kernel | exact fun env => ⟨_, rfl⟩); (case k17 => first | k_is | exact rfl | decide +kernel | exact fun env => ⟨_, rfl⟩); (case a18 => first | k_is | exact rfl | decide +kernel | exact fun env => ⟨_, rfl⟩); (case l18 => first | k_is | exact rfl | decide +kernel | exact fun env => ⟨_, rfl⟩); (case c18 => first | k_is | exact rfl | decide +kernel | exact fun env => ⟨_, rfl⟩); (case k18 => first | k_is | exact rfl | decide +kernel | exact fun env => ⟨_, rfl⟩); (case a19 => first | k_is | exact rfl | decide +kernel | exact fun env => ⟨_, rfl⟩)
  (case l19 => first | k_is | exact rfl | decide +kernel | exact fun env => ⟨_, rfl⟩); (case c19 => first | k_is | exact rfl | decide +kernel | exact fun env => ⟨_, rfl⟩); (case k19 => first | k_is | exact rfl | decide +kernel | exact fun env => ⟨_, rfl⟩); (case a20 => first | k_is | exact rfl | decide +kernel | exact fun env => ⟨_, rfl⟩); (case l20 => first | k_is | exact rfl | decide +kernel | exact fun env => ⟨_, rfl⟩); (case c20 => first | k_is | exact rfl | decide +kernel | exact fun env => ⟨_, rfl⟩); (case k20 => first | k_is | exact rfl | decide +kernel | exact fun env => ⟨_, rfl⟩); (case a21 => first | k_is | exact rfl | decide +kernel | exact fun env => ⟨_, rfl⟩)
  (case l21 => first | k_is | exact rfl | decide +kernel | exact fun env => ⟨_, rfl⟩); (case c21 => first | k_is | exact rfl | decide +kernel | exact fun env => ⟨_, rfl⟩); (case k21 => first | k_is | exact rfl | decide +kernel | exact fun env => ⟨_, rfl⟩); (case a22 => first | k_is | exact rfl | decide +kernel | exact fun env => ⟨_, rfl⟩); (case l22 => first | k_is | exact rfl | decide +kernel | exact fun env => ⟨_, rfl⟩); (case c22 => first | k_is | exact rfl | decide +kernel | exact fun env => ⟨_, rfl⟩); (case k22 => first | k_is | exact rfl | decide +kernel | exact fun env => ⟨_, rfl⟩); (case a23 => first | k_is | exact rfl | decide +kernel | exact fun env => ⟨_, rfl⟩)
  (case l23 => first | k_is | exact rfl | decide +kernel | exact fun env => ⟨_, rfl⟩); (case c23 => first | k_is | exact rfl | decide +kernel | exact fun env => ⟨_, rfl⟩); (case k23 => first | k_is | exact rfl | decide +kernel | exact fun env => ⟨_, rfl⟩); (case a24 => first | k_is | exact rfl | decide +kernel | exact fun env => ⟨_, rfl⟩); (case l24 => first | k_is | exact rfl | decide +kernel | exact fun env => ⟨_, rfl⟩); (case c24 => first | k_is | exact rfl | decide +kernel | exact fun env => ⟨_, rfl⟩); (case k24 => first | k_is | exact rfl | decide +kernel | exact fun env => ⟨_, rfl⟩); (case a25 => first | k_is | exact rfl | decide +kernel | exact fun env => ⟨_, rfl⟩)
  (case l25 => first | k_is | exact rfl | decide +kernel | exact fun env => ⟨_, rfl⟩); (case c25 => first | k_is | exact rfl | decide +kernel | exact fun env => ⟨_, rfl⟩); (case k25 => first | k_is | exact rfl | decide +kernel | exact fun env => ⟨_, rfl⟩); (case a26 => first | k_is | exact rfl | decide +kernel | exact fun env => ⟨_, rfl⟩); (case l26 => first | k_is | exact rfl | decide +kernel | exact fun env => ⟨_, rfl⟩); (case c26 => first | k_is | exact rfl | decide +kernel | exact fun env => ⟨_, rfl⟩); (case k26 => first | k_is | exact rfl | decide +kernel | exact fun env => ⟨_, rfl⟩); (case a27 => first | k_is | exact rfl | decide +kernel | exact fun env => ⟨_, rfl⟩)
  (case l27 => first | k_is | exact rfl | decide +kernel | exact fun env => ⟨_, rfl⟩); (case c27 => first | k_is | exact rfl | decide +kernel | exact fun env => ⟨_, rfl⟩); (case k27 => first | k_is | exact rfl | decide +kernel | exact fun env => ⟨_, rfl⟩); (case a28 => first | k_is | exact rfl | decide +kernel | exact fun env => ⟨_, rfl⟩); (case l28 => first | k_is | exact rfl | decide +kernel | exact fun env => ⟨_, rfl⟩); (case c28 => first | k_is | exact rfl | decide +kernel | exact fun env => ⟨_, rfl⟩); (case k28 => first | k_is | exact rfl | decide +kernel | exact fun env => ⟨_, rfl⟩); (case a29 => first | k_is | exact rfl | decide +kernel | exact fun env => ⟨_, rfl⟩)
  (case l29 => first | k_is | exact rfl | decide +kernel | exact fun env => ⟨_, rfl⟩); (case c29 => first | k_is | exact rfl | decide +kernel | exact fun env => ⟨_, rfl⟩); (case k29 => first | k_is | exact rfl | decide +kernel | exact fun env => ⟨_, rfl⟩); (case a30 => first | k_is | exact rfl | decide +kernel | exact fun env => ⟨_, rfl⟩); (case l30 => first | k_is | exact rfl | decide +kernel | exact fun env => ⟨_, rfl⟩); (case c30 => first | k_is | exact rfl | decide +kernel | exact fun env => ⟨_, rfl⟩); (case k30 => first | k_is | exact rfl | decide +kernel | exact fun env => ⟨_, rfl⟩); (case a31 => first | k_is | exact rfl | decide +kernel | exact fun env => ⟨_, rfl⟩)
  (case l31 => first | k_is | exact rfl | decide +kernel | exact fun env => ⟨_, rfl⟩); (case c31 => first | k_is | exact rfl | decide +kernel | exact fun env => ⟨_, rfl⟩); (case k31 => first | k_is | exact rfl | decide +kernel | exact fun env => ⟨_, rfl⟩); (case a32 => first | k_is | exact rfl | decide +kernel | exact fun env => ⟨_, rfl⟩); (case l32 => first | k_is | exact rfl | decide +kernel | exact fun env => ⟨_, rfl⟩); (case c32 => first | k_is | exact rfl | decide +kernel | exact fun env => ⟨_, rfl⟩); (case k32 => first | k_is | exact rfl | decide +kernel | exact fun env => ⟨_, rfl⟩); (case a33 => first | k_is | exact rfl | decide +kernel | exact fun env => ⟨_, rfl⟩)
  (case l33 => first | k_is | exact rfl | decide +kernel | exact fun env => ⟨_, rfl⟩); (case c33 => first | k_is | exact rfl | decide +kernel | exact fun env => ⟨_, rfl⟩); (case k33 => first | k_is | exact rfl | decide +kernel | exact fun env => ⟨_, rfl⟩); (case a34 => first | k_is | exact rfl | decide +kernel | exact fun env => ⟨_, rfl⟩); (case l34 => first | k_is | exact rfl | decide +kernel | exact fun env => ⟨_, rfl⟩); (case c34 => first | k_is | exact rfl | decide +kernel | exact fun env => ⟨_, rfl⟩); (case k34 => first | k_is | exact rfl | decide +kernel | exact fun env => ⟨_, rfl⟩); (case a35 => first | k_is | exact rfl | decide +kernel | exact fun env => ⟨_, rfl⟩)
  (case l35 => first | k_is | exact rfl | decide +kernel | exact fun env => ⟨_, rfl⟩); (case c35 => first | k_is | exact rfl | decide +kernel | exact fun env => ⟨_, rfl⟩); (case k35 => first | k_is | exact rfl | decide +kernel | exact fun env => ⟨_, rfl⟩); (case a36 => first | k_is | exact rfl | decide +kernel | exact fun env => ⟨_, rfl⟩); (case l36 => first | k_is | exact rfl | decide +kernel | exact fun env => ⟨_, rfl⟩); (case c36 => first | k_is | exact rfl | decide +kernel | exact fun env => ⟨_, rfl⟩); (case k36 => first | k_is | exact rfl | decide +kernel | exact fun env => ⟨_, rfl⟩); (case a37 => first | k_is | exact rfl | decide +kernel | exact fun env => ⟨_, rfl⟩)
  (case l37 => first | k_is | exact rfl | decide +kernel | exact fun env => ⟨_, rfl⟩); (case c37 => first | k_is | exact rfl | decide +kernel | exact fun env => ⟨_, rfl⟩); (case k37 => first | k_is | exact rfl | decide +kernel | exact fun env => ⟨_, rfl⟩); (case a38 => first | k_is | exact rfl | decide +kernel | exact fun env => ⟨_, rfl⟩); (case l38 => first | k_is | exact rfl | decide +kernel | exact fun env => ⟨_, rfl⟩); (case c38 => first | k_is | exact rfl | decide +kernel | exact fun env => ⟨_, rfl⟩); (case k38 => first | k_is | exact rfl | decide +kernel | exact fun env => ⟨_, rfl⟩); (case a39 => first | k_is | exact rfl | decide +kernel | exact fun env => ⟨_, rfl⟩)
  (case l39 => first | k_is | exact rfl | decide +kernel | exact fun env => ⟨_, rfl⟩); (case c39 => first | k_is | exact rfl | decide +kernel | exact fun env => ⟨_, rfl⟩); (case k39 => first | k_is | exact rfl | decide +kernel | exact fun env => ⟨_, rfl⟩); (case a40 => first | k_is | exact rfl | decide +kernel | exact fun env => ⟨_, rfl⟩); (case l40 => first | k_is | exact rfl | decide +kernel | exact fun env => ⟨_, rfl⟩); (case c40 => first | k_is | exact rfl | decide +kernel | exact fun env => ⟨_, rfl⟩); (case k40 => first | k_is | exact rfl | decide +kernel | exact fun env => ⟨_, rfl⟩); (case a41 => first | k_is | exact rfl | decide +kernel | exact fun env => ⟨_, rfl⟩)
  (case l41 => first | k_is | exact rfl | decide +kernel | exact fun env => ⟨_, rfl⟩); (case c41 => first | k_is | exact rfl | decide +kernel | exact fun env => ⟨_, rfl⟩); (case k41 => first | k_is | exact rfl | decide +kernel | exact fun env => ⟨_, rfl⟩); (case n_abs => first | k_is | exact rfl | decide +kernel | exact fun env => ⟨_, rfl⟩); (case n_all => first | k_is | exact rfl | decide +kernel | exact fun env => ⟨_, rfl⟩); (case n_any => first | k_is | exact rfl | decide +kernel | exact fun env => ⟨_, rfl⟩); (case n_bool => first | k_is | exact rfl | decide +kernel | exact fun env => ⟨_, rfl⟩); (case n_enumerate => first | k_is | exact rfl | decide +kernel | exact fun env => ⟨_, rfl⟩)
  (case n_int => first | k_is | exact rfl | decide +kernel | exact fun env => ⟨_, rfl⟩); (case n_isinstance => first | k_is | exact rfl | decide +kernel | exact fun env => ⟨_, rfl⟩); (case n_len => first | k_is | exact rfl | decide +kernel | exact fun env => ⟨_, rfl⟩); (case n_list => first | k_is | exact rfl | decide +kernel | exact fun env => ⟨_, rfl⟩); (case n_range => first | k_is | exact rfl | decide +kernel | exact fun env => ⟨_, rfl⟩); (case n_repr => first | k_is | exact rfl | decide +kernel | exact fun env => ⟨_, rfl⟩); (case n_sorted => first | k_is | exact rfl | decide +kernel | exact fun env => ⟨_, rfl⟩); (case n_str => first | k_is | exact rfl | decide +kernel | exact fun env => ⟨_, rfl⟩)
  (case n_super => first | k_is | exact rfl | decide +kernel | exact fun env => ⟨_, rfl⟩); (case n_tuple => first | k_is | exact rfl | decide +kernel | exact fun env => ⟨_, rfl⟩); (case n_zip => first | k_is | exact rfl | decide +kernel | exact fun env => ⟨_, rfl⟩); (case gz_ZERO => first | k_is | exact rfl | decide +kernel | exact fun env => ⟨_, rfl⟩); (case gl_ZERO => first | k_is | exact rfl | decide +kernel | exact fun env => ⟨_, rfl⟩); (case gh_ZERO => first | k_is | exact rfl | decide +kernel | exact fun env => ⟨_, rfl⟩); (case gz_ONE => first | k_is | exact rfl | decide +kernel | exact fun env => ⟨_, rfl⟩); (case gl_ONE => first | k_is | exact rfl | decide +kernel | exact fun env => ⟨_, rfl⟩)
  (case gh_ONE => first | k_is | exact rfl | decide +kernel | exact fun env => ⟨_, rfl⟩); (case gz_MOST_ROOMS => first | k_is | exact rfl | decide +kernel | exact fun env => ⟨_, rfl⟩); (case gz_MOST_SIGNS => first | k_is | exact rfl | decide +kernel | exact fun env => ⟨_, rfl⟩); (case gz_MOST_STEPS => first | k_is | exact rfl | decide +kernel | exact fun env => ⟨_, rfl⟩); (case gz_MOST_DOORS => first | k_is | exact rfl | decide +kernel | exact fun env => ⟨_, rfl⟩); (case gz_MOST_BEHIND => first | k_is | exact rfl | decide +kernel | exact fun env => ⟨_, rfl⟩); (case xL0 => first | k_is | exact rfl | decide +kernel | exact fun env => ⟨_, rfl⟩); (case hb0 => first | k_is | exact rfl | decide +kernel | exact fun env => ⟨_, rfl⟩)
  (case sa0 => first | k_is | exact rfl | decide +kernel | exact fun env => ⟨_, rfl⟩); (case noN0 => first | k_is | exact rfl | decide +kernel | exact fun env => ⟨_, rfl⟩); (case iC0 => first | k_is | exact rfl | decide +kernel | exact fun env => ⟨_, rfl⟩); (case tC0 => first | k_is | exact rfl | decide +kernel | exact fun env => ⟨_, rfl⟩); (case kC0 => first | k_is | exact rfl | decide +kernel | exact fun env => ⟨_, rfl⟩); (case exC0 => first | k_is | exact rfl | decide +kernel | exact fun env => ⟨_, rfl⟩); (case tyC0 => first | k_is | exact rfl | decide +kernel | exact fun env => ⟨_, rfl⟩); (case up0 => first | k_is | exact rfl | decide +kernel | exact fun env => ⟨_, rfl⟩)
  (case veC0 => first | k_is | exact rfl | decide +kernel | exact fun env => ⟨_, rfl⟩); (case any0 => first | k_is | exact rfl | decide +kernel | exact fun env => ⟨_, rfl⟩); (case own0 => first | k_is | exact rfl | decide +kernel | exact fun env => ⟨_, rfl⟩); (case top0 => first | k_is | exact rfl | decide +kernel | exact fun env => ⟨_, rfl⟩); (case lI0 => first | k_is | exact rfl | decide +kernel | exact fun env => ⟨_, rfl⟩); (case cI0 => first | k_is | exact rfl | decide +kernel | exact fun env => ⟨_, rfl⟩); (case lc0 => first | k_is | exact rfl | decide +kernel | exact fun env => ⟨_, rfl⟩); (case hvs0 => first | k_is | exact rfl | decide +kernel | exact fun env => ⟨_, rfl⟩)
  (case hf0 => first | k_is | exact rfl | decide +kernel | exact fun env => ⟨_, rfl⟩); (case lcc0 => first | k_is | exact rfl | decide +kernel | exact fun env => ⟨_, rfl⟩); (case ev0 => first | k_is | exact rfl | decide +kernel | exact fun env => ⟨_, rfl⟩); (case xL1 => first | k_is | exact rfl | decide +kernel | exact fun env => ⟨_, rfl⟩); (case hb1 => first | k_is | exact rfl | decide +kernel | exact fun env => ⟨_, rfl⟩); (case sa1 => first | k_is | exact rfl | decide +kernel | exact fun env => ⟨_, rfl⟩); (case noN1 => first | k_is | exact rfl | decide +kernel | exact fun env => ⟨_, rfl⟩); (case iC1 => first | k_is | exact rfl | decide +kernel | exact fun env => ⟨_, rfl⟩)
  (case tC1 => first | k_is | exact rfl | decide +kernel | exact fun env => ⟨_, rfl⟩); (case kC1 => first | k_is | exact rfl | decide +kernel | exact fun env => ⟨_, rfl⟩); (case exC1 => first | k_is | exact rfl | decide +kernel | exact fun env => ⟨_, rfl⟩); (case tyC1 => first | k_is | exact rfl | decide +kernel | exact fun env => ⟨_, rfl⟩); (case up1 => first | k_is | exact rfl | decide +kernel | exact fun env => ⟨_, rfl⟩); (case veC1 => first | k_is | exact rfl | decide +kernel | exact fun env => ⟨_, rfl⟩); (case any1 => first | k_is | exact rfl | decide +kernel | exact fun env => ⟨_, rfl⟩); (case own1 => first | k_is | exact rfl | decide +kernel | exact fun env => ⟨_, rfl⟩)
  (case top1 => first | k_is | exact rfl | decide +kernel | exact fun env => ⟨_, rfl⟩); (case lI1 => first | k_is | exact rfl | decide +kernel | exact fun env => ⟨_, rfl⟩); (case cI1 => first | k_is | exact rfl | decide +kernel | exact fun env => ⟨_, rfl⟩); (case lc1 => first | k_is | exact rfl | decide +kernel | exact fun env => ⟨_, rfl⟩); (case hvs1 => first | k_is | exact rfl | decide +kernel | exact fun env => ⟨_, rfl⟩); (case hf1 => first | k_is | exact rfl | decide +kernel | exact fun env => ⟨_, rfl⟩); (case lcc1 => first | k_is | exact rfl | decide +kernel | exact fun env => ⟨_, rfl⟩); (case ev1 => first | k_is | exact rfl | decide +kernel | exact fun env => ⟨_, rfl⟩)
  (case xL2 => first | k_is | exact rfl | decide +kernel | exact fun env => ⟨_, rfl⟩); (case hb2 => first | k_is | exact rfl | decide +kernel | exact fun env => ⟨_, rfl⟩); (case sa2 => first | k_is | exact rfl | decide +kernel | exact fun env => ⟨_, rfl⟩); (case noN2 => first | k_is | exact rfl | decide +kernel | exact fun env => ⟨_, rfl⟩); (case iC2 => first | k_is | exact rfl | decide +kernel | exact fun env => ⟨_, rfl⟩); (case tC2 => first | k_is | exact rfl | decide +kernel | exact fun env => ⟨_, rfl⟩); (case kC2 => first | k_is | exact rfl | decide +kernel | exact fun env => ⟨_, rfl⟩); (case exC2 => first | k_is | exact rfl | decide +kernel | exact fun env => ⟨_, rfl⟩)
  (case tyC2 => first | k_is | exact rfl | decide +kernel | exact fun env => ⟨_, rfl⟩); (case up2 => first | k_is | exact rfl | decide +kernel | exact fun env => ⟨_, rfl⟩); (case veC2 => first | k_is | exact rfl | decide +kernel | exact fun env => ⟨_, rfl⟩); (case any2 => first | k_is | exact rfl | decide +kernel | exact fun env => ⟨_, rfl⟩); (case own2 => first | k_is | exact rfl | decide +kernel | exact fun env => ⟨_, rfl⟩); (case top2 => first | k_is | exact rfl | decide +kernel | exact fun env => ⟨_, rfl⟩); (case lI2 => first | k_is | exact rfl | decide +kernel | exact fun env => ⟨_, rfl⟩); (case cI2 => first | k_is | exact rfl | decide +kernel | exact fun env => ⟨_, rfl⟩)
  (case lc2 => first | k_is | exact rfl | decide +kernel | exact fun env => ⟨_, rfl⟩); (case hvs2 => first | k_is | exact rfl | decide +kernel | exact fun env => ⟨_, rfl⟩); (case hf2 => first | k_is | exact rfl | decide +kernel | exact fun env => ⟨_, rfl⟩); (case lcc2 => first | k_is | exact rfl | decide +kernel | exact fun env => ⟨_, rfl⟩); (case ev2 => first | k_is | exact rfl | decide +kernel | exact fun env => ⟨_, rfl⟩); (case ga2 => first | k_is | exact rfl | decide +kernel | exact fun env => ⟨_, rfl⟩); (case gg2 => first | k_is | exact rfl | decide +kernel | exact fun env => ⟨_, rfl⟩); (case eC2 => first | k_is | exact rfl | decide +kernel | exact fun env => ⟨_, rfl⟩)
  (case hd2 => first | k_is | exact rfl | decide +kernel | exact fun env => ⟨_, rfl⟩); (case xn2 => first | k_is | exact rfl | decide +kernel | exact fun env => ⟨_, rfl⟩); (case ic2 => first | k_is | exact rfl | decide +kernel | exact fun env => ⟨_, rfl⟩); (case ty2 => first | k_is | exact rfl | decide +kernel | exact fun env => ⟨_, rfl⟩); (case sb0_2 => first | k_is | exact rfl | decide +kernel | exact fun env => ⟨_, rfl⟩); (case sb1_2 => first | k_is | exact rfl | decide +kernel | exact fun env => ⟨_, rfl⟩); (case sb2_2 => first | k_is | exact rfl | decide +kernel | exact fun env => ⟨_, rfl⟩)
