import PyProof.Rows.All
import HandS.ForMost
import HandS.ForExc
import HandS.CallSlots
import HandS.TupAny
import HandS.Deep
import HandS.IsInst
import HandS.ExcInit
import HandS.ExcField
import HandS.TryMany
import HandS.SortInts
import HandS.Wide
import HandS.Flow
import HandS.ExcOwn
import HandS.Defaults
import HandS.HeadHook4
import HandS.HeadEnd
import HandS.Head2
import HandS.Style
import PySem.Challenge.RW_presswork_k71_whole_hyphens
set_option Elab.async false
set_option linter.all false
set_option maxRecDepth 100000
set_option maxHeartbeats 4000000
namespace PL
open PySem PySem.Spec L2
set_option autoImplicit false

/-! ### plain values and how the heap bears them -/
inductive PV where
  | non | bl (b : Bool) | int (i : Int) | str (x : Str) | lst (xs : List PV) | tup (xs : List PV) | ktup (xs : List PV) | klst (xs : List PV) | dic (t : Bool) (ks : List PV) (vs : List PV) | fn (a : Addr)
instance : Inhabited PV := ⟨.non⟩

def keyPV : Key → PV
  | .inl i => .int i
  | .inr x => .str x
mutual
inductive Rep (K : PySem.W.Frag) (S : Hp) : PV → V → Prop
  | non : Rep K S .non .non
  | bl (b : Bool) : Rep K S (.bl b) (.bl b)
  | int (i : Int) : Rep K S (.int i) (.int i)
  | str (x : Str) : Rep K S (.str x) (.str x)
  | fn (a : Addr) : Rep K S (.fn a) (.ref a)
  | lst {a : Addr} {vs : List V} {ps : List PV} : S a = some (.lst vs) → RepL K S ps vs → Rep K S (.lst ps) (.ref a)
  | tup {a : Addr} {vs : List V} {ps : List PV} : S a = some (.tup vs) → RepL K S ps vs → Rep K S (.tup ps) (.ref a)
  | ktup {a : Addr} {vs : List V} {ps : List PV} : SqT K S a vs → RepL K S ps vs → Rep K S (.ktup ps) (.ref a)
  | klst {a : Addr} {vs : List V} {ps : List PV} : SqL K S a vs → RepL K S ps vs → Rep K S (.klst ps) (.ref a)
  | dK {a : Addr} {kvs : List (Key × V)} {ps : List PV} : S a = some (.dK kvs) → RepL K S ps (kvs.map (·.2)) → Rep K S (.dic false (kvs.map fun p => keyPV p.1) ps) (.ref a)
  | dT {a : Addr} {kvs : List (List Key × V)} {ps : List PV} : S a = some (.dT kvs) → RepL K S ps (kvs.map (·.2)) → Rep K S (.dic true (kvs.map fun p => .tup (p.1.map keyPV)) ps) (.ref a)
inductive RepL (K : PySem.W.Frag) (S : Hp) : List PV → List V → Prop
  | nil : RepL K S [] []
  | cons {p : PV} {v : V} {ps : List PV} {vs : List V} : Rep K S p v → RepL K S ps vs → RepL K S (p :: ps) (v :: vs)
end
theorem Same.tupK {K : PySem.W.Frag} {H H' : Hp} {a : Addr} {xs : List V} (e : Same H H') (h : SqT K H a xs) : SqT K H' a xs := by
  rcases h with (h | ⟨o, h⟩) | h
  · exact .inl (.inl (e _ _ h))
  · exact .inl (.inr ⟨o, e _ _ h⟩)
  · exact .inr h
theorem Same.lstK {K : PySem.W.Frag} {H H' : Hp} {a : Addr} {xs : List V} (e : Same H H') (h : SqL K H a xs) : SqL K H' a xs := by
  rcases h with (h | ⟨o, h⟩) | h
  · exact .inl (.inl (e _ _ h))
  · exact .inl (.inr ⟨o, e _ _ h⟩)
  · exact .inr h
section
variable {K : PySem.W.Frag} {S S' : Hp}
mutual
theorem Rep.mono (e : Same S S') : ∀ (p : PV) (v : V), Rep K S p v → Rep K S' p v
  | .non, _, h => by cases h; exact .non
  | .bl b, _, h => by cases h; exact .bl b
  | .int i, _, h => by cases h; exact .int i
  | .str x, _, h => by cases h; exact .str x
  | .fn a, _, h => by cases h; exact .fn a
  | .lst ps, _, h => by cases h with | lst h1 h2 => exact .lst (e _ _ h1) (RepL.mono e ps _ h2)
  | .tup ps, _, h => by cases h with | tup h1 h2 => exact .tup (e _ _ h1) (RepL.mono e ps _ h2)
  | .ktup ps, _, h => by cases h with | ktup h1 h2 => exact .ktup (Same.tupK e h1) (RepL.mono e ps _ h2)
  | .klst ps, _, h => by cases h with | klst h1 h2 => exact .klst (Same.lstK e h1) (RepL.mono e ps _ h2)
  | .dic t ks ps, _, h => by
    cases h with
    | dK h1 h2 => exact .dK (e _ _ h1) (RepL.mono e ps _ h2)
    | dT h1 h2 => exact .dT (e _ _ h1) (RepL.mono e ps _ h2)
theorem RepL.mono (e : Same S S') : ∀ (ps : List PV) (vs : List V), RepL K S ps vs → RepL K S' ps vs
  | [], _, h => by cases h; exact .nil
  | p :: ps, _, h => by cases h with | cons h1 h2 => exact .cons (Rep.mono e p _ h1) (RepL.mono e ps _ h2)
end
theorem Rep.up (e : Same S S') {p : PV} {v : V} (h : Rep K S p v) : Rep K S' p v := Rep.mono e p v h
theorem RepL.up (e : Same S S') {p : List PV} {v : List V} (h : RepL K S p v) : RepL K S' p v := RepL.mono e p v h
theorem RepL.length : ∀ {ps : List PV} {vs : List V}, RepL K S ps vs → ps.length = vs.length
  | [], _, h => by cases h; rfl
  | _ :: _, _, h => by cases h with | cons _ h2 => simp [RepL.length h2]
theorem RepL.append : ∀ {ps : List PV} {vs : List V} {qs : List PV} {ws : List V}, RepL K S ps vs → RepL K S qs ws → RepL K S (ps ++ qs) (vs ++ ws)
  | [], _, _, _, h, h' => by cases h; exact h'
  | _ :: _, _, _, _, h, h' => by cases h with | cons h1 h2 => exact .cons h1 (RepL.append h2 h')
theorem RepL.get : ∀ {ps : List PV} {vs : List V} {i : Nat} {p : PV}, RepL K S ps vs → ps[i]? = some p → ∃ v, vs[i]? = some v ∧ Rep K S p v
  | [], _, _, _, _, e => by simp at e
  | q :: ps, _, 0, p, h, e => by cases h with | cons h1 h2 => simp at e; subst e; exact ⟨_, rfl, h1⟩
  | q :: ps, _, i + 1, p, h, e => by
    cases h with
    | cons h1 h2 =>
      obtain ⟨v, e1, r⟩ := RepL.get (i := i) h2 (by simpa using e)
      exact ⟨v, by simpa using e1, r⟩
theorem RepL.get' : ∀ {ps : List PV} {vs : List V} {i : Nat} {v : V}, RepL K S ps vs → vs[i]? = some v → ∃ p, ps[i]? = some p ∧ Rep K S p v
  | [], _, _, _, h, e => by cases h; simp at e
  | q :: ps, _, 0, p, h, e => by cases h with | cons h1 h2 => simp at e; subst e; exact ⟨_, rfl, h1⟩
  | q :: ps, _, i + 1, p, h, e => by
    cases h with
    | cons h1 h2 =>
      obtain ⟨v, e1, r⟩ := RepL.get' (i := i) h2 (by simpa using e)
      exact ⟨v, by simpa using e1, r⟩
theorem RepL.set {p : PV} {v : V} (r : Rep K S p v) : ∀ {ps : List PV} {vs : List V} (i : Nat), RepL K S ps vs → RepL K S (ps.set i p) (vs.set i v)
  | [], _, _, h => by cases h; exact .nil
  | _ :: _, _, 0, h => by cases h with | cons h1 h2 => exact .cons r h2
  | _ :: _, _, i + 1, h => by cases h with | cons h1 h2 => exact .cons h1 (RepL.set r i h2)
theorem RepL.take : ∀ {ps : List PV} {vs : List V} (n : Nat), RepL K S ps vs → RepL K S (ps.take n) (vs.take n)
  | _, _, 0, h => by simp; exact .nil
  | [], _, _ + 1, h => by cases h; exact .nil
  | _ :: _, _, n + 1, h => by cases h with | cons h1 h2 => exact .cons h1 (RepL.take n h2)
theorem RepL.drop : ∀ {ps : List PV} {vs : List V} (n : Nat), RepL K S ps vs → RepL K S (ps.drop n) (vs.drop n)
  | _, _, 0, h => h
  | [], _, _ + 1, h => by cases h; exact .nil
  | _ :: _, _, n + 1, h => by cases h with | cons h1 h2 => exact RepL.drop n h2
theorem RepL.reverse : ∀ {ps : List PV} {vs : List V}, RepL K S ps vs → RepL K S ps.reverse vs.reverse
  | [], _, h => by cases h; exact .nil
  | _ :: _, _, h => by cases h with | cons h1 h2 => rw [List.reverse_cons, List.reverse_cons]; exact RepL.append (RepL.reverse h2) (.cons h1 .nil)
theorem RepL.dropLast {ps : List PV} {vs : List V} (h : RepL K S ps vs) : RepL K S ps.dropLast vs.dropLast := by
  rw [List.dropLast_eq_take, List.dropLast_eq_take, ← h.length]
  exact h.take _
theorem RepL.eraseIdx : ∀ {ps : List PV} {vs : List V} (n : Nat), RepL K S ps vs → RepL K S (ps.eraseIdx n) (vs.eraseIdx n)
  | [], _, _, h => by cases h; exact .nil
  | _ :: _, _, 0, h => by cases h with | cons h1 h2 => exact h2
  | _ :: _, _, n + 1, h => by cases h with | cons h1 h2 => exact .cons h1 (RepL.eraseIdx n h2)
theorem RepL.replicate {p : PV} {v : V} (r : Rep K S p v) : ∀ n, RepL K S (List.replicate n p) (List.replicate n v)
  | 0 => .nil
  | n + 1 => .cons r (RepL.replicate r n)
end

/-- what an owned object at the top is -/
def OwnO (K : PySem.W.Frag) (S : Hp) : PV → HO → Prop
  | .lst ps, .lst vs => RepL K S ps vs
  | .dic false ks ps, .dK kvs => ks = kvs.map (fun p => keyPV p.1) ∧ RepL K S ps (kvs.map (·.2))
  | .dic true ks ps, .dT kvs => ks = kvs.map (fun p => .tup (p.1.map keyPV)) ∧ RepL K S ps (kvs.map (·.2))
  | _, _ => False
theorem OwnO.up {K : PySem.W.Frag} {S S' : Hp} (e : Same S S') {p : PV} {o : HO} (h : OwnO K S p o) : OwnO K S' p o := by
  unfold OwnO at h ⊢
  split at h
  · exact h.up e
  · exact ⟨h.1, h.2.up e⟩
  · exact ⟨h.1, h.2.up e⟩
  · exact h.elim
theorem OwnO.rep {K : PySem.W.Frag} {S : Hp} {p : PV} {o : HO} {a : Addr} (h : OwnO K S p o) (e : S a = some o) : Rep K S p (.ref a) := by
  unfold OwnO at h
  split at h
  · exact .lst e h
  · obtain ⟨rfl, h⟩ := h
    exact .dK e h
  · obtain ⟨rfl, h⟩ := h
    exact .dT e h
  · exact h.elim

/-! ### slots -/
inductive Sl where
  | un | sh (p : PV) | ow (p : PV) | io (p : PV)
abbrev Env := List Sl
def Sl.own? : Sl → Option PV
  | .ow p => some p
  | .io p => some p
  | _ => none
def Sl.with : Sl → PV → Sl
  | .ow _, q => .ow q
  | .io _, q => .io q
  | s, _ => s
structure Abs (K : PySem.W.Frag) (H₀ S₀ : Hp) (M : Addr → Prop) (S : Hp) (σ : St) (H : Hp) (ρ : Env) : Prop where
  len : ρ.length = σ.length
  sub : Same S H
  base : Same S₀ S
  grow : ∀ b o, S b = some o → S₀ b = some o ∨ H₀ b = none
  keep : ∀ b o, H₀ b = some o → ¬ M b → H b = some o
  there : ∀ b o, H₀ b = some o → ∃ o', H b = some o'
  sh : ∀ (i : Nat) p, ρ[i]? = some (.sh p) → ∃ v, σ[i]? = some (some v) ∧ Rep K S p v
  own : ∀ (i : Nat) s p, ρ[i]? = some s → s.own? = some p → ∃ a o, σ[i]? = some (some (.ref a)) ∧ (s = .ow p → H₀ a = none) ∧ (s = .io p → M a) ∧ S a = none ∧ H a = some o ∧ OwnO K S p o
  dis : ∀ (i j : Nat) s t p q a, ρ[i]? = some s → s.own? = some p → ρ[j]? = some t → t.own? = some q → σ[i]? = some (some (.ref a)) → σ[j]? = some (some (.ref a)) → i = j
/-- new objects alone -/
structure Step (S H S' H' : Hp) : Prop where
  s : Same S S'
  h : Same H H'
  sub : Same S' H'
  new : ∀ b o, S' b = some o → S b = some o ∨ H b = none
theorem Step.refl {S H : Hp} (h : Same S H) : Step S H S H := ⟨Same.refl _, Same.refl _, h, fun _ _ e => .inl e⟩
theorem Step.trans {S H S1 H1 S2 H2 : Hp} (a : Step S H S1 H1) (b : Step S1 H1 S2 H2) : Step S H S2 H2 :=
  ⟨a.s.trans b.s, a.h.trans b.h, b.sub, fun c o e => by
    rcases b.new c o e with h | h
    · exact a.new c o h
    · exact .inr (a.h.free h)⟩
theorem same_upd {H : Hp} {p : Addr} {o : HO} (h : H p = none) : Same H (upd H p o) := fun b x e => by
  rw [upd_ne (ne_of_none e h)]
  exact e
theorem Same.updB {S H : Hp} {p : Addr} {o : HO} (h : Same S H) : Same (upd S p o) (upd H p o) := fun b x e => by
  by_cases hb : b = p
  · subst hb; rw [upd_same] at e ⊢; exact e
  · rw [upd_ne hb] at e ⊢; exact h _ _ e
/-- one new object, shared -/
theorem Step.new1 {S H : Hp} {p : Addr} {o : HO} (h : Same S H) (n : H p = none) : Step S H (upd S p o) (upd H p o) :=
  ⟨same_upd (Same.free h n), same_upd n, Same.updB h, fun b x e => by
    by_cases hb : b = p
    · subst hb; exact .inr n
    · rw [upd_ne hb] at e; exact .inl e⟩
/-- .. not shared -/
theorem Step.hid {S H : Hp} {p : Addr} {o : HO} (h : Same S H) (n : H p = none) : Step S H S (upd H p o) :=
  ⟨Same.refl _, same_upd n, h.trans (same_upd n), fun b x e => .inl e⟩
section
variable {K : PySem.W.Frag} {H₀ S₀ : Hp} {M : Addr → Prop} {S S' H H' : Hp} {σ : St} {ρ : Env}
theorem Abs.rebase (a : Abs K H₀ S₀ M S σ H ρ) : Abs K H₀ S M S σ H ρ := ⟨a.len, a.sub, Same.refl _, fun _ _ e => .inl e, a.keep, a.there, a.sh, a.own, a.dis⟩
theorem Abs.unbase {σ' : St} {ρ' : Env} (a : Abs K H₀ S₀ M S σ H ρ) (b : Abs K H₀ S M S' σ' H' ρ') : Abs K H₀ S₀ M S' σ' H' ρ' :=
  ⟨b.len, b.sub, a.base.trans b.base, fun c o e => by
    rcases b.grow c o e with h | h
    · exact a.grow c o h
    · exact .inr h, b.keep, b.there, b.sh, b.own, b.dis⟩
theorem Abs.none0 (a : Abs K H₀ S₀ M S σ H ρ) {b : Addr} (h : H b = none) : H₀ b = none := by
  cases e : H₀ b with
  | none => rfl
  | some o =>
    obtain ⟨o', e'⟩ := a.there b o e
    rw [h] at e'; cases e'
theorem Abs.step (a : Abs K H₀ S₀ M S σ H ρ) (t : Step S H S' H') : Abs K H₀ S₀ M S' σ H' ρ where
  len := a.len
  sub := t.sub
  base := a.base.trans t.s
  grow := fun b o e => by
    rcases t.new b o e with h | h
    · exact a.grow b o h
    · exact .inr (a.none0 h)
  keep := fun b o e n => t.h _ _ (a.keep b o e n)
  there := fun b o e => by
    obtain ⟨o', h⟩ := a.there b o e
    exact ⟨o', t.h _ _ h⟩
  sh := fun i p e => by
    obtain ⟨v, h1, h2⟩ := a.sh i p e
    exact ⟨v, h1, h2.up t.s⟩
  own := fun i s p e e' => by
    obtain ⟨b, o, h1, h2, h3, h4, h5, h6⟩ := a.own i s p e e'
    refine ⟨b, o, h1, h2, h3, ?_, t.h _ _ h5, h6.up t.s⟩
    cases q : S' b with
    | none => rfl
    | some o' =>
      rcases t.new b o' q with z | z
      · rw [h4] at z; cases z
      · rw [h5] at z; cases z
  dis := a.dis
/-- an owned slot becomes shared -/
theorem Abs.share {i : Nat} {p : PV} (a : Abs K H₀ S₀ M S σ H ρ) (e : ρ[i]? = some (.ow p)) :
    ∃ b S', σ[i]? = some (some (.ref b)) ∧ Same S S' ∧ Abs K H₀ S₀ M S' σ H (ρ.set i (.sh p)) ∧ Rep K S' p (.ref b) := by
  obtain ⟨b, o, h1, h2, h3, h4, h5, h6⟩ := a.own i _ p e rfl
  have hs : Same S (upd S b o) := same_upd h4
  have hr : Rep K (upd S b o) p (.ref b) := (h6.up hs).rep upd_same
  have hi : i < ρ.length := (List.getElem?_eq_some_iff.mp e).1
  refine ⟨b, upd S b o, h1, hs, ?_, hr⟩
  refine ⟨by rw [List.length_set]; exact a.len, fun c o' q => ?_, a.base.trans hs, fun c o' q => ?_, a.keep, a.there, fun j q ej => ?_, fun j s q ej es => ?_, fun j k s t q r c ej es ek et h k' => ?_⟩
  · by_cases hc : c = b
    · subst hc; rw [upd_same] at q; cases q; exact h5
    · rw [upd_ne hc] at q; exact a.sub _ _ q
  · by_cases hc : c = b
    · subst hc; exact .inr (h2 rfl)
    · rw [upd_ne hc] at q; exact a.grow _ _ q
  · by_cases hj : j = i
    · subst hj
      rw [List.getElem?_set_self hi] at ej
      cases ej
      exact ⟨_, h1, hr⟩
    · rw [List.getElem?_set_ne (Ne.symm hj)] at ej
      obtain ⟨v, z1, z2⟩ := a.sh j q ej
      exact ⟨v, z1, z2.up hs⟩
  · by_cases hj : j = i
    · subst hj
      rw [List.getElem?_set_self hi] at ej
      cases ej
      cases es
    · rw [List.getElem?_set_ne (Ne.symm hj)] at ej
      obtain ⟨c, o', z1, z2, z3, z4, z5, z6⟩ := a.own j s q ej es
      refine ⟨c, o', z1, z2, z3, ?_, z5, z6.up hs⟩
      rw [upd_ne, z4]
      intro hcb
      subst hcb
      exact hj (a.dis j i _ _ _ _ c ej es e rfl z1 h1)
  · by_cases hj : j = i
    · subst hj
      rw [List.getElem?_set_self hi] at ej
      cases ej
      cases es
    · by_cases hk : k = i
      · subst hk
        rw [List.getElem?_set_self hi] at ek
        cases ek
        cases et
      · rw [List.getElem?_set_ne (Ne.symm hj)] at ej
        rw [List.getElem?_set_ne (Ne.symm hk)] at ek
        exact a.dis j k _ _ _ _ c ej es ek et h k'
/-- a slot gets a shared value -/
theorem Abs.setSh {i : Nat} {p : PV} {v : V} (a : Abs K H₀ S₀ M S σ H ρ) (r : Rep K S p v) : Abs K H₀ S₀ M S (σ.set i (some v)) H (ρ.set i (.sh p)) where
  len := by rw [List.length_set, List.length_set]; exact a.len
  sub := a.sub
  base := a.base
  grow := a.grow
  keep := a.keep
  there := a.there
  sh := fun j q ej => by
    by_cases hj : j = i
    · subst hj
      have hi : j < ρ.length := by
        rcases Nat.lt_or_ge j ρ.length with h | h
        · exact h
        · rw [List.getElem?_eq_none (by rw [List.length_set]; exact h)] at ej; cases ej
      rw [List.getElem?_set_self hi] at ej
      cases ej
      exact ⟨v, List.getElem?_set_self (a.len ▸ hi), r⟩
    · rw [List.getElem?_set_ne (Ne.symm hj)] at ej ⊢
      exact a.sh j q ej
  own := fun j s q ej es => by
    by_cases hj : j = i
    · subst hj
      have hi : j < ρ.length := by
        rcases Nat.lt_or_ge j ρ.length with h | h
        · exact h
        · rw [List.getElem?_eq_none (by rw [List.length_set]; exact h)] at ej; cases ej
      rw [List.getElem?_set_self hi] at ej
      cases ej
      cases es
    · rw [List.getElem?_set_ne (Ne.symm hj)] at ej ⊢
      exact a.own j s q ej es
  dis := fun j k s t q r c ej es ek et h k' => by
    have hl1 : ∀ {j : Nat} {s : Sl} {q : PV}, (ρ.set i (.sh p))[j]? = some s → s.own? = some q → j ≠ i := fun {j s q} ej es hj => by
      subst hj
      have hi : j < ρ.length := by
        rcases Nat.lt_or_ge j ρ.length with h | h
        · exact h
        · rw [List.getElem?_eq_none (by rw [List.length_set]; exact h)] at ej; cases ej
      rw [List.getElem?_set_self hi] at ej
      cases ej
      cases es
    have hj := hl1 ej es
    have hk := hl1 ek et
    rw [List.getElem?_set_ne (Ne.symm hj)] at ej h
    rw [List.getElem?_set_ne (Ne.symm hk)] at ek k'
    exact a.dis j k _ _ _ _ c ej es ek et h k'
/-- a fresh object: new since the entry, no slot owns it, not shared -/
def Fr (K : PySem.W.Frag) (H₀ S H : Hp) (σ : St) (ρ : Env) (p : PV) (v : V) : Prop :=
  ∃ a o, v = .ref a ∧ H₀ a = none ∧ S a = none ∧ H a = some o ∧ OwnO K S p o ∧ ∀ (j : Nat) s q, ρ[j]? = some s → s.own? = some q → σ[j]? ≠ some (some (.ref a))
/-- a slot gets a fresh object -/
theorem Abs.setOw {i : Nat} {p : PV} {v : V} (a : Abs K H₀ S₀ M S σ H ρ) (f : Fr K H₀ S H σ ρ p v) : Abs K H₀ S₀ M S (σ.set i (some v)) H (ρ.set i (.ow p)) := by
  obtain ⟨b, o, rfl, f1, f2, f3, f4, f5⟩ := f
  have lt : ∀ {j : Nat} {s : Sl}, (ρ.set i (.ow p))[j]? = some s → j < ρ.length := fun {j s} ej => by
    rcases Nat.lt_or_ge j ρ.length with h | h
    · exact h
    · rw [List.getElem?_eq_none (by rw [List.length_set]; exact h)] at ej; cases ej
  refine ⟨by rw [List.length_set, List.length_set]; exact a.len, a.sub, a.base, a.grow, a.keep, a.there, fun j q ej => ?_, fun j s q ej es => ?_, fun j k s t q r c ej es ek et h k' => ?_⟩
  · by_cases hj : j = i
    · subst hj
      rw [List.getElem?_set_self (lt ej)] at ej
      cases ej
    · rw [List.getElem?_set_ne (Ne.symm hj)] at ej ⊢
      exact a.sh j q ej
  · by_cases hj : j = i
    · subst hj
      have hi := lt ej
      rw [List.getElem?_set_self hi] at ej
      cases ej
      cases es
      exact ⟨b, o, List.getElem?_set_self (a.len ▸ hi), fun _ => f1, (fun z => nomatch z), f2, f3, f4⟩
    · rw [List.getElem?_set_ne (Ne.symm hj)] at ej ⊢
      exact a.own j s q ej es
  · by_cases hj : j = i
    · by_cases hk : k = i
      · rw [hj, hk]
      · subst hj
        have hl := a.len ▸ lt ej
        rw [List.getElem?_set_self hl] at h
        cases h
        rw [List.getElem?_set_ne (Ne.symm hk)] at ek k'
        exact absurd k' (f5 k _ _ ek et)
    · by_cases hk : k = i
      · subst hk
        have hl := a.len ▸ lt ek
        rw [List.getElem?_set_self hl] at k'
        cases k'
        rw [List.getElem?_set_ne (Ne.symm hj)] at ej h
        exact absurd h (f5 j _ _ ej es)
      · rw [List.getElem?_set_ne (Ne.symm hj)] at ej h
        rw [List.getElem?_set_ne (Ne.symm hk)] at ek k'
        exact a.dis j k _ _ _ _ c ej es ek et h k'
/-- an owned object is changed -/
theorem Abs.mut {i : Nat} {s : Sl} {p q : PV} {b : Addr} {o : HO} (a : Abs K H₀ S₀ M S σ H ρ) (e : ρ[i]? = some s) (es : s.own? = some p) (hb : σ[i]? = some (some (.ref b))) (h : OwnO K S q o) :
    Abs K H₀ S₀ M S σ (upd H b o) (ρ.set i (s.with q)) := by
  obtain ⟨b', o', h1, h2, h3, h4, h5, h6⟩ := a.own i s p e es
  rw [hb] at h1
  cases h1
  have hi : i < ρ.length := (List.getElem?_eq_some_iff.mp e).1
  have hw : (s.with q).own? = some q := by
    cases s with
    | ow r => rfl
    | io r => rfl
    | un => cases es
    | sh r => cases es
  have hn : ∀ c o', S c = some o' → c ≠ b := fun c o' z y => by subst y; rw [h4] at z; cases z
  have hM : ¬ M b → H₀ b = none := fun hM => by
    cases s with
    | ow r => cases es; exact h2 rfl
    | io r => cases es; exact absurd (h3 rfl) hM
    | un => cases es
    | sh r => cases es
  refine ⟨by rw [List.length_set]; exact a.len, fun c o' z => ?_, a.base, a.grow, fun c o' z n => ?_, fun c o' z => ?_, fun j r ej => ?_, fun j t r ej et => ?_, fun j k t u r r' c ej et ek eu z z' => ?_⟩
  · rw [upd_ne (hn c o' z)]; exact a.sub _ _ z
  · by_cases hc : c = b
    · subst hc; rw [hM n] at z; cases z
    · rw [upd_ne hc]; exact a.keep _ _ z n
  · by_cases hc : c = b
    · subst hc; exact ⟨o, upd_same⟩
    · rw [upd_ne hc]; exact a.there _ _ z
  · by_cases hj : j = i
    · subst hj
      rw [List.getElem?_set_self hi] at ej
      have z := Option.some.inj ej
      rw [z] at hw; cases hw
    · rw [List.getElem?_set_ne (Ne.symm hj)] at ej
      exact a.sh j r ej
  · by_cases hj : j = i
    · subst hj
      rw [List.getElem?_set_self hi] at ej
      have z := Option.some.inj ej
      subst z
      rw [hw] at et
      cases et
      refine ⟨b, o, hb, fun z => ?_, fun z => ?_, h4, upd_same, h⟩
      · cases s with
        | ow r => cases es; exact h2 rfl
        | io r => cases z
        | un => cases es
        | sh r => cases es
      · cases s with
        | io r => cases es; exact h3 rfl
        | ow r => cases z
        | un => cases es
        | sh r => cases es
    · rw [List.getElem?_set_ne (Ne.symm hj)] at ej
      obtain ⟨c, o', z1, z2, z3, z4, z5, z6⟩ := a.own j t r ej et
      refine ⟨c, o', z1, z2, z3, z4, ?_, z6⟩
      rw [upd_ne, z5]
      intro hcb
      subst hcb
      exact hj (a.dis j i _ _ _ _ c ej et e es z1 hb)
  · have key : ∀ {j : Nat} {t : Sl} {r : PV}, (ρ.set i (s.with q))[j]? = some t → t.own? = some r → ∃ t' r', ρ[j]? = some t' ∧ t'.own? = some r' := fun {j t r} ej et => by
      by_cases hj : j = i
      · subst hj; exact ⟨s, p, e, es⟩
      · rw [List.getElem?_set_ne (Ne.symm hj)] at ej; exact ⟨t, r, ej, et⟩
    obtain ⟨t1, r1, e1, e2⟩ := key ej et
    obtain ⟨t2, r2, e3, e4⟩ := key ek eu
    exact a.dis j k _ _ _ _ c e1 e2 e3 e4 z z'
/-- what is fresh is shared -/
theorem Abs.shareFr {p : PV} {v : V} (a : Abs K H₀ S₀ M S σ H ρ) (f : Fr K H₀ S H σ ρ p v) : ∃ S', Same S S' ∧ Abs K H₀ S₀ M S' σ H ρ ∧ Rep K S' p v := by
  obtain ⟨b, o, rfl, f1, f2, f3, f4, f5⟩ := f
  have hs : Same S (upd S b o) := same_upd f2
  refine ⟨upd S b o, hs, ⟨a.len, fun c o' q => ?_, a.base.trans hs, fun c o' q => ?_, a.keep, a.there, fun j q ej => ?_, fun j s q ej es => ?_, a.dis⟩, (f4.up hs).rep upd_same⟩
  · by_cases hc : c = b
    · subst hc; rw [upd_same] at q; cases q; exact f3
    · rw [upd_ne hc] at q; exact a.sub _ _ q
  · by_cases hc : c = b
    · subst hc; exact .inr f1
    · rw [upd_ne hc] at q; exact a.grow _ _ q
  · obtain ⟨v, z1, z2⟩ := a.sh j q ej
    exact ⟨v, z1, z2.up hs⟩
  · obtain ⟨c, o', z1, z2, z3, z4, z5, z6⟩ := a.own j s q ej es
    refine ⟨c, o', z1, z2, z3, ?_, z5, z6.up hs⟩
    rw [upd_ne, z4]
    intro hcb
    subst hcb
    exact f5 j s q ej es z1
/-- a new object, fresh -/
theorem Abs.fresh {b : Addr} {o : HO} {p : PV} (a : Abs K H₀ S₀ M S σ H ρ) (n : H b = none) (h : OwnO K S p o) : Abs K H₀ S₀ M S σ (upd H b o) ρ ∧ Fr K H₀ S (upd H b o) σ ρ p (.ref b) := by
  refine ⟨a.step (Step.hid a.sub n), b, o, rfl, a.none0 n, a.sub.free n, upd_same, h, fun j s q ej es z => ?_⟩
  obtain ⟨c, o', z1, _, _, _, z5, _⟩ := a.own j s q ej es
  rw [z] at z1
  cases z1
  rw [n] at z5; cases z5
end
end PL

set_option Elab.async false
set_option linter.all false
set_option maxRecDepth 100000
set_option maxHeartbeats 4000000
namespace PL
open PySem PySem.Spec L2
set_option autoImplicit false

structure Exn where
  cls : Str
  fld : Str
  val : PV
inductive Rs (α : Type) where
  | bad | exc (x : Exn) (ρ : Env) | ok (a : α) (ρ : Env)
def Rs.bind {α β : Type} (r : Rs α) (k : α → Env → Rs β) : Rs β := match r with
  | .bad => .bad
  | .exc x ρ => .exc x ρ
  | .ok a ρ => k a ρ
def opt {α : Type} : Option α → Env → Rs α
  | some a, ρ => .ok a ρ
  | none, _ => .bad
abbrev Den := Env → Rs PV
abbrev DenB := Env → Rs Bool
abbrev DenL := Env → Rs (List PV)
@[simp] theorem bind_ok {α β : Type} (a : α) (ρ : Env) (k : α → Env → Rs β) : (Rs.ok a ρ).bind k = k a ρ := id rfl
@[simp] theorem bind_exc {α β : Type} (x : Exn) (ρ : Env) (k : α → Env → Rs β) : (Rs.exc x ρ).bind k = .exc x ρ := id rfl
@[simp] theorem bind_bad {α β : Type} (k : α → Env → Rs β) : (Rs.bad : Rs α).bind k = .bad := id rfl
@[simp] theorem opt_some {α : Type} (a : α) (ρ : Env) : opt (some a) ρ = .ok a ρ := id rfl
@[simp] theorem opt_none {α : Type} (ρ : Env) : opt (none : Option α) ρ = .bad := id rfl

/-- an exception as it lies -/
def ExcRep (K : PySem.W.Frag) (mg : Str → Option Value) (S H : Hp) (x : Exn) (cls : Value) (d : Option Addr) : Prop :=
  ∃ (C dx : Addr) (v : V), mg x.cls = some (.ref C) ∧ cls = .ref C ∧ d = some dx ∧ H dx = some (.xd [(x.fld, v)]) ∧ Rep K S x.val v

abbrev RelT (α β : Type) := Hp → Hp → Hp → St → Env → α → β → Prop
def Post {α β : Type} (K : PySem.W.Frag) (mg : Str → Option Value) (W : WX) (Rl : RelT α β) (H₀ S₀ : Hp) (M : Addr → Prop) (σ : St) (r : Rs α) (Q : β → Hp → Prop) : Prop :=
  match r with
  | .bad => False
  | .exc x ρ' => ∀ cls dd S' H', Abs K H₀ S₀ M S' σ H' ρ' → ExcRep K mg S' H' x cls dd → W cls dd σ H'
  | .ok a ρ' => ∀ b S' H', Abs K H₀ S₀ M S' σ H' ρ' → Rl H₀ S' H' σ ρ' a b → Q b H'
def XOk {α β : Type} (K : PySem.W.Frag) (mg : Str → Option Value) (W : WX) (Rl : RelT α β) (t : St → Hp → (β → Hp → Prop) → Prop) (d : Env → Rs α) : Prop :=
  ∀ (H₀ S₀ : Hp) (M : Addr → Prop) (S : Hp) (σ : St) (H : Hp) (ρ : Env) (Q : β → Hp → Prop), Abs K H₀ S₀ M S σ H ρ → Post K mg W Rl H₀ S₀ M σ (d ρ) Q → t σ H Q
def rV (K : PySem.W.Frag) : RelT PV V := fun _ S _ _ _ p v => Rep K S p v
def rF (K : PySem.W.Frag) : RelT PV V := fun H₀ S H σ ρ p v => Fr K H₀ S H σ ρ p v
def rB : RelT Bool Bool := fun _ _ _ _ _ a b => b = a
def rL (K : PySem.W.Frag) : RelT (List PV) (List V) := fun _ S _ _ _ ps vs => RepL K S ps vs

section
variable {K : PySem.W.Frag} {mg : Str → Option Value} {W : WX} {H₀ S₀ : Hp} {M : Addr → Prop} {S H : Hp} {σ : St} {ρ : Env}
theorem XOk.bind {α β γ δ : Type} {Rl : RelT α β} {Rl' : RelT γ δ} {t : St → Hp → (β → Hp → Prop) → Prop} {d : Env → Rs α} (h : XOk K mg W Rl t d) (ab : Abs K H₀ S₀ M S σ H ρ) {k : α → Env → Rs γ} {Q : δ → Hp → Prop} {Q1 : β → Hp → Prop}
    (hp : Post K mg W Rl' H₀ S₀ M σ ((d ρ).bind k) Q)
    (hk : ∀ a ρ1 b S1 H1, d ρ = .ok a ρ1 → Abs K H₀ S₀ M S1 σ H1 ρ1 → Same S S1 → Rl H₀ S1 H1 σ ρ1 a b → Post K mg W Rl' H₀ S₀ M σ (k a ρ1) Q → Q1 b H1) : t σ H Q1 := by
  refine h H₀ S M S σ H ρ Q1 ab.rebase ?_
  cases e : d ρ with
  | bad => rw [e] at hp; exact hp
  | exc x ρ1 =>
    rw [e] at hp
    exact fun cls dd S' H' a1 r => hp cls dd S' H' (ab.unbase a1) r
  | ok a ρ1 =>
    rw [e] at hp
    exact fun b S1 H1 a1 r => hk a ρ1 b S1 H1 e (ab.unbase a1) a1.base r hp
/-- fresh is shared -/
theorem XOk.shared {t : TE} {d : Den} (h : XOk K mg W (rF K) t d) : XOk K mg W (rV K) t d := by
  intro H₀ S₀ M S σ H ρ Q ab hp
  refine h H₀ S₀ M S σ H ρ Q ab ?_
  cases e : d ρ with
  | bad => rw [e] at hp; exact hp
  | exc x ρ1 => rw [e] at hp; exact hp
  | ok a ρ1 =>
    rw [e] at hp
    intro b S1 H1 a1 f
    obtain ⟨S2, s2, a2, r2⟩ := a1.shareFr f
    exact hp b S2 H1 a2 r2
end

/-! ### operations by values -/
def V2 (K : PySem.W.Frag) (r : R2) (g : PV → PV → Option PV) : Prop :=
  ∀ (S H : Hp) (x y : V) (p q z : PV) (Q : VK), Same S H → Rep K S p x → Rep K S q y → g p q = some z → (∀ v S' H', Step S H S' H' → Rep K S' z v → Q v H') → r x y H Q
def V2F (K : PySem.W.Frag) (r : R2) (g : PV → PV → Option PV) : Prop :=
  ∀ (S H : Hp) (x y : V) (p q z : PV) (Q : VK), Same S H → Rep K S p x → Rep K S q y → g p q = some z → (∀ a o, H a = none → OwnO K S z o → Q (.ref a) (upd H a o)) → r x y H Q
def V1 (K : PySem.W.Frag) (r : V → Hp → VK → Prop) (g : PV → Option PV) : Prop :=
  ∀ (S H : Hp) (x : V) (p z : PV) (Q : VK), Same S H → Rep K S p x → g p = some z → (∀ v S' H', Step S H S' H' → Rep K S' z v → Q v H') → r x H Q
def VN (K : PySem.W.Frag) (r : List V → Hp → VK → Prop) (g : List PV → Option PV) : Prop :=
  ∀ (S H : Hp) (xs : List V) (ps : List PV) (z : PV) (Q : VK), Same S H → RepL K S ps xs → g ps = some z → (∀ v S' H', Step S H S' H' → Rep K S' z v → Q v H') → r xs H Q
def VNF (K : PySem.W.Frag) (r : List V → Hp → VK → Prop) (g : List PV → Option PV) : Prop :=
  ∀ (S H : Hp) (xs : List V) (ps : List PV) (z : PV) (Q : VK), Same S H → RepL K S ps xs → g ps = some z → (∀ a o, H a = none → OwnO K S z o → Q (.ref a) (upd H a o)) → r xs H Q
/-- the truth of a value -/
def VT (K : PySem.W.Frag) (r : V → Hp → (Bool → Hp → Prop) → Prop) (g : PV → Option Bool) : Prop :=
  ∀ (S H : Hp) (x : V) (p : PV) (z : Bool) (Q : Bool → Hp → Prop), Same S H → Rep K S p x → g p = some z → Q z H → r x H Q
theorem own_new {K : PySem.W.Frag} {S H : Hp} {a : Addr} {o : HO} {z : PV} (s : Same S H) (n : H a = none) (h : OwnO K S z o) : Step S H (upd S a o) (upd H a o) ∧ Rep K (upd S a o) z (.ref a) :=
  ⟨Step.new1 s n, (h.up (same_upd (Same.free s n))).rep upd_same⟩
theorem V2F.v2 {K : PySem.W.Frag} {r : R2} {g : PV → PV → Option PV} (h : V2F K r g) : V2 K r g := fun S H x y p q z Q s rx ry e k => h S H x y p q z Q s rx ry e fun a o n w => k _ _ _ (own_new s n w).1 (own_new s n w).2
theorem VNF.vn {K : PySem.W.Frag} {r : List V → Hp → VK → Prop} {g : List PV → Option PV} (h : VNF K r g) : VN K r g := fun S H xs ps z Q s rx e k => h S H xs ps z Q s rx e fun a o n w => k _ _ _ (own_new s n w).1 (own_new s n w).2
def PV.sc : PV → Bool
  | .non => true
  | .bl _ => true
  | .int _ => true
  | .str _ => true
  | _ => false
theorem Rep.sc {K : PySem.W.Frag} {S S' : Hp} {p : PV} {v : V} (h : Rep K S p v) (e : p.sc = true) : Rep K S' p v := by
  cases p with
  | non => cases h; exact .non
  | bl b => cases h; exact .bl b
  | int i => cases h; exact .int i
  | str x => cases h; exact .str x
  | _ => cases e

/-! ### denotations of expressions -/
def dC (p : PV) : Den := fun ρ => .ok p ρ
def dVar (i : Nat) : Den := fun ρ => match ρ[i]? with
  | some (.sh p) => .ok p ρ
  | some (.ow p) => .ok p (ρ.set i (.sh p))
  | _ => .bad
def Sl.pv? : Sl → Option PV
  | .sh p => some p
  | .ow p => some p
  | .io p => some p
  | .un => none
/-- what the slot holds -/
def slot (ρ : Env) (i : Nat) : Option PV := (ρ[i]?).bind Sl.pv?
def d1 (g : PV → Option PV) (da : Den) : Den := fun ρ => (da ρ).bind fun p ρ1 => opt (g p) ρ1
def d2 (g : PV → PV → Option PV) (da db : Den) : Den := fun ρ => (da ρ).bind fun p ρ1 => (db ρ1).bind fun q ρ2 => opt (g p q) ρ2
/-- the left one a slot that is only looked at -/
def d2l (g : PV → PV → Option PV) (i : Nat) (db : Den) : Den := fun ρ => match slot ρ i with
  | none => .bad
  | some _ => (db ρ).bind fun q ρ1 => match slot ρ1 i with
    | none => .bad
    | some p => opt (g p q) ρ1
def d2r (g : PV → PV → Option PV) (da : Den) (i : Nat) : Den := fun ρ => (da ρ).bind fun p ρ1 => match slot ρ1 i with
    | none => .bad
    | some q => opt (g p q) ρ1
def d2b (g : PV → PV → Option PV) (i j : Nat) : Den := fun ρ => match slot ρ i, slot ρ j with
    | some p, some q => opt (g p q) ρ
    | _, _ => .bad
def d1v (g : PV → Option PV) (i : Nat) : Den := fun ρ => match slot ρ i with
    | some p => opt (g p) ρ
    | _ => .bad
def dNil : DenL := fun ρ => .ok [] ρ
def dCons (da : Den) (dr : DenL) : DenL := fun ρ => (da ρ).bind fun p ρ1 => (dr ρ1).bind fun ps ρ2 => .ok (p :: ps) ρ2
def dN (g : List PV → Option PV) (da : DenL) : Den := fun ρ => (da ρ).bind fun ps ρ1 => opt (g ps) ρ1
def dIf (dc : DenB) (da db : Den) : Den := fun ρ => (dc ρ).bind fun b ρ1 => if b = true then da ρ1 else db ρ1
/-- tests -/
def bAnd (da db : DenB) : DenB := fun ρ => (da ρ).bind fun b ρ1 => if b = true then db ρ1 else .ok false ρ1
def bOr (da db : DenB) : DenB := fun ρ => (da ρ).bind fun b ρ1 => if b = true then .ok true ρ1 else db ρ1
def bNot (da : DenB) : DenB := fun ρ => (da ρ).bind fun b ρ1 => .ok (!b) ρ1
def PV.bool? : PV → Option Bool
  | .bl b => some b
  | _ => none
/-- a value that is a bool, as a test -/
def bVal (da : Den) : DenB := fun ρ => (da ρ).bind fun p ρ1 => opt p.bool? ρ1
def truth : PV → Option Bool
  | .non => some false
  | .bl b => some b
  | .int i => some (i != 0)
  | .str x => if x.length ≤ sizeLine then some ((x.length : Int) != 0) else none
  | .lst ps => some (!ps.isEmpty)
  | .tup ps => some (!ps.isEmpty)
  | .ktup ps => some (!ps.isEmpty)
  | .klst ps => some (!ps.isEmpty)
  | .dic _ _ _ => none
  | .fn _ => none
def bTru (da : Den) : DenB := fun ρ => (da ρ).bind fun p ρ1 => opt (truth p) ρ1
def bTruV (i : Nat) : DenB := fun ρ => match slot ρ i with
  | some p => opt (truth p) ρ
  | none => .bad

section
variable {K : PySem.W.Frag} {mg : Str → Option Value} {W : WX}
abbrev EOk (K : PySem.W.Frag) (mg : Str → Option Value) (W : WX) (t : TE) (d : Den) : Prop := XOk K mg W (rV K) t d
abbrev FOk (K : PySem.W.Frag) (mg : Str → Option Value) (W : WX) (t : TE) (d : Den) : Prop := XOk K mg W (rF K) t d
abbrev TOk (K : PySem.W.Frag) (mg : Str → Option Value) (W : WX) (t : TT) (d : DenB) : Prop := XOk K mg W rB t d
abbrev AOk (K : PySem.W.Frag) (mg : Str → Option Value) (W : WX) (t : TA) (d : DenL) : Prop := XOk K mg W (rL K) t d

theorem eo_c {p : PV} {v : V} (h : ∀ S, Rep K S p v) : EOk K mg W (tC v) (dC p) := fun H₀ S₀ M S σ H ρ Q ab hp => hp v S H ab (h S)
theorem eo_var {i : Nat} : EOk K mg W (tVar i) (dVar i) := by
  intro H₀ S₀ M S σ H ρ Q ab hp
  unfold dVar at hp
  cases e : ρ[i]? with
  | none => rw [e] at hp; exact hp.elim
  | some s =>
    rw [e] at hp
    cases s with
    | un => exact hp.elim
    | io p => exact hp.elim
    | sh p =>
      obtain ⟨v, h1, h2⟩ := ab.sh i p e
      exact ⟨v, h1, hp v S H ab h2⟩
    | ow p =>
      obtain ⟨b, S', h1, h2, h3, h4⟩ := ab.share e
      exact ⟨.ref b, h1, hp _ S' H h3 h4⟩
theorem Abs.look {H₀ S₀ : Hp} {M : Addr → Prop} {S H : Hp} {σ : St} {ρ : Env} {i : Nat} {p : PV} (a : Abs K H₀ S₀ M S σ H ρ) (e : slot ρ i = some p) :
    ∃ v S', σ[i]? = some (some v) ∧ Same S S' ∧ Same S' H ∧ Rep K S' p v := by
  unfold slot at e
  cases e1 : ρ[i]? with
  | none => rw [e1] at e; cases e
  | some s =>
    rw [e1] at e
    cases s with
    | un => cases e
    | sh q =>
      cases e
      obtain ⟨v, h1, h2⟩ := a.sh i _ e1
      exact ⟨v, S, h1, Same.refl _, a.sub, h2⟩
    | ow q =>
      cases e
      obtain ⟨b, o, h1, h2, h3, h4, h5, h6⟩ := a.own i _ _ e1 rfl
      refine ⟨.ref b, upd S b o, h1, same_upd h4, fun c o' z => ?_, (h6.up (same_upd h4)).rep upd_same⟩
      by_cases hc : c = b
      · subst hc; rw [upd_same] at z; cases z; exact h5
      · rw [upd_ne hc] at z; exact a.sub _ _ z
    | io q =>
      cases e
      obtain ⟨b, o, h1, h2, h3, h4, h5, h6⟩ := a.own i _ _ e1 rfl
      refine ⟨.ref b, upd S b o, h1, same_upd h4, fun c o' z => ?_, (h6.up (same_upd h4)).rep upd_same⟩
      by_cases hc : c = b
      · subst hc; rw [upd_same] at z; cases z; exact h5
      · rw [upd_ne hc] at z; exact a.sub _ _ z
/-- the two slots looked at together -/
theorem Abs.look2 {H₀ S₀ : Hp} {M : Addr → Prop} {S H : Hp} {σ : St} {ρ : Env} {i j : Nat} {p q : PV} (a : Abs K H₀ S₀ M S σ H ρ) (e : slot ρ i = some p) (e' : slot ρ j = some q) :
    ∃ v u S', σ[i]? = some (some v) ∧ σ[j]? = some (some u) ∧ Same S S' ∧ Same S' H ∧ Rep K S' p v ∧ Rep K S' q u := by
  obtain ⟨v, S1, h1, h2, h3, h4⟩ := a.look e
  obtain ⟨u, S2, k1, k2, k3, k4⟩ := a.look e'
  refine ⟨v, u, fun b => match S1 b with | some o => some o | none => S2 b, h1, k1, fun b o z => ?_, fun b o z => ?_, h4.up fun b o z => ?_, k4.up fun b o z => ?_⟩
  · simp only [h2 b o z]
  · cases e1 : S1 b with
    | some o' => simp only [e1] at z; rw [← z]; exact h3 b o' e1
    | none => simp only [e1] at z; exact k3 b o z
  · simp only [z]
  · cases e1 : S1 b with
    | some o' =>
      have z1 := h3 b o' e1
      rw [k3 b o z] at z1
      simp only [e1]; exact z1.symm
    | none => simp only [e1]; exact z
theorem step_of {S S' H S2 H2 : Hp} (s : Same S H) (t : Step S' H S2 H2) : Step S H S H2 := ⟨Same.refl _, t.h, s.trans t.h, fun _ _ e => .inl e⟩
theorem eo_1 {ta : TE} {da : Den} {r : V → Hp → VK → Prop} {g : PV → Option PV} (ha : EOk K mg W ta da) (hr : V1 K r g) : EOk K mg W (tUn r ta) (d1 g da) := by
  intro H₀ S₀ M S σ H ρ Q ab hp
  refine ha.bind (Rl' := rV K) ab hp fun p ρ1 v S1 H1 _ a1 _ r1 hp => ?_
  cases e : g p with
  | none => rw [e] at hp; exact hp.elim
  | some z =>
    rw [e] at hp
    exact hr S1 H1 v p z Q a1.sub r1 e fun v' S2 H2 st rz => hp v' S2 H2 (a1.step st) rz
theorem eo_2 {ta tb : TE} {da db : Den} {r : R2} {g : PV → PV → Option PV} (ha : EOk K mg W ta da) (hb : EOk K mg W tb db) (hr : V2 K r g) : EOk K mg W (tOp r ta tb) (d2 g da db) := by
  intro H₀ S₀ M S σ H ρ Q ab hp
  refine ha.bind (Rl' := rV K) ab hp fun p ρ1 v S1 H1 _ a1 _ r1 hp => ?_
  refine hb.bind (Rl' := rV K) a1 hp fun q ρ2 u S2 H2 _ a2 s2 r2 hp => ?_
  cases e : g p q with
  | none => rw [e] at hp; exact hp.elim
  | some z =>
    rw [e] at hp
    exact hr S2 H2 v u p q z Q a2.sub (r1.up s2) r2 e fun v' S3 H3 st rz => hp v' S3 H3 (a2.step st) rz
theorem fo_2 {ta tb : TE} {da db : Den} {r : R2} {g : PV → PV → Option PV} (ha : EOk K mg W ta da) (hb : EOk K mg W tb db) (hr : V2F K r g) : FOk K mg W (tOp r ta tb) (d2 g da db) := by
  intro H₀ S₀ M S σ H ρ Q ab hp
  refine ha.bind (Rl' := rF K) ab hp fun p ρ1 v S1 H1 _ a1 _ r1 hp => ?_
  refine hb.bind (Rl' := rF K) a1 hp fun q ρ2 u S2 H2 _ a2 s2 r2 hp => ?_
  cases e : g p q with
  | none => rw [e] at hp; exact hp.elim
  | some z =>
    rw [e] at hp
    exact hr S2 H2 v u p q z Q a2.sub (r1.up s2) r2 e fun a o n w => hp _ S2 _ (a2.fresh n w).1 (a2.fresh n w).2
theorem eo_2l {i : Nat} {tb : TE} {db : Den} {r : R2} {g : PV → PV → Option PV} (hb : EOk K mg W tb db) (hr : V2 K r g) (hs : ∀ p q z, g p q = some z → z.sc = true) : EOk K mg W (tOp r (tVar i) tb) (d2l g i db) := by
  intro H₀ S₀ M S σ H ρ Q ab hp
  unfold d2l at hp
  cases e0 : slot ρ i with
  | none => rw [e0] at hp; exact hp.elim
  | some p0 =>
    rw [e0] at hp
    obtain ⟨v, _, hv, _⟩ := ab.look e0
    refine ⟨v, hv, ?_⟩
    refine hb.bind (Rl' := rV K) ab hp fun q ρ1 u S1 H1 _ a1 _ r1 hp => ?_
    cases e1 : slot ρ1 i with
    | none => rw [e1] at hp; exact hp.elim
    | some p =>
      rw [e1] at hp
      obtain ⟨v', S2, hv', s2, s3, r2⟩ := a1.look e1
      rw [hv] at hv'
      cases hv'
      cases e : g p q with
      | none => simp only [e] at hp; exact hp.elim
      | some z =>
        simp only [e] at hp
        exact hr S2 H1 v u p q z Q s3 r2 (r1.up s2) e fun v' S3 H3 st rz => hp v' S1 H3 (a1.step (step_of a1.sub st)) (rz.sc (hs _ _ _ e))
theorem eo_2r {i : Nat} {ta : TE} {da : Den} {r : R2} {g : PV → PV → Option PV} (ha : EOk K mg W ta da) (hr : V2 K r g) (hs : ∀ p q z, g p q = some z → z.sc = true) : EOk K mg W (tOp r ta (tVar i)) (d2r g da i) := by
  intro H₀ S₀ M S σ H ρ Q ab hp
  refine ha.bind (Rl' := rV K) ab hp fun p ρ1 v S1 H1 _ a1 _ r1 hp => ?_
  cases e1 : slot ρ1 i with
  | none => rw [e1] at hp; exact hp.elim
  | some q =>
    rw [e1] at hp
    obtain ⟨u, S2, hv', s2, s3, r2⟩ := a1.look e1
    refine ⟨u, hv', ?_⟩
    cases e : g p q with
    | none => simp only [e] at hp; exact hp.elim
    | some z =>
      simp only [e] at hp
      exact hr S2 H1 v u p q z Q s3 (r1.up s2) r2 e fun v' S3 H3 st rz => hp v' S1 H3 (a1.step (step_of a1.sub st)) (rz.sc (hs _ _ _ e))
theorem eo_2b {i j : Nat} {r : R2} {g : PV → PV → Option PV} (hr : V2 K r g) (hs : ∀ p q z, g p q = some z → z.sc = true) : EOk K mg W (tOp r (tVar i) (tVar j)) (d2b g i j) := by
  intro H₀ S₀ M S σ H ρ Q ab hp
  unfold d2b at hp
  cases e0 : slot ρ i with
  | none => rw [e0] at hp; exact hp.elim
  | some p =>
    cases e1 : slot ρ j with
    | none => rw [e0, e1] at hp; exact hp.elim
    | some q =>
      rw [e0, e1] at hp
      obtain ⟨v, u, S2, hv, hu, s2, s3, r1, r2⟩ := ab.look2 e0 e1
      refine ⟨v, hv, u, hu, ?_⟩
      cases e : g p q with
      | none => simp only [e] at hp; exact hp.elim
      | some z =>
        simp only [e] at hp
        exact hr S2 H v u p q z Q s3 r1 r2 e fun v' S3 H3 st rz => hp v' S H3 (ab.step (step_of ab.sub st)) (rz.sc (hs _ _ _ e))
theorem eo_1v {i : Nat} {r : V → Hp → VK → Prop} {g : PV → Option PV} (hr : V1 K r g) (hs : ∀ p z, g p = some z → z.sc = true) : EOk K mg W (tUn r (tVar i)) (d1v g i) := by
  intro H₀ S₀ M S σ H ρ Q ab hp
  unfold d1v at hp
  cases e0 : slot ρ i with
  | none => rw [e0] at hp; exact hp.elim
  | some p =>
    rw [e0] at hp
    obtain ⟨v, S2, hv, s2, s3, r2⟩ := ab.look e0
    refine ⟨v, hv, ?_⟩
    cases e : g p with
    | none => simp only [e] at hp; exact hp.elim
    | some z =>
      simp only [e] at hp
      exact hr S2 H v p z Q s3 r2 e fun v' S3 H3 st rz => hp v' S H3 (ab.step (step_of ab.sub st)) (rz.sc (hs _ _ e))
theorem ao_nil : AOk K mg W tNil dNil := fun H₀ S₀ M S σ H ρ Q ab hp => hp [] S H ab .nil
theorem ao_cons {ta : TE} {da : Den} {tr : TA} {dr : DenL} (ha : EOk K mg W ta da) (hr : AOk K mg W tr dr) : AOk K mg W (tCons ta tr) (dCons da dr) := by
  intro H₀ S₀ M S σ H ρ Q ab hp
  refine ha.bind (Rl' := rL K) ab hp fun p ρ1 v S1 H1 _ a1 _ r1 hp => ?_
  refine hr.bind (Rl' := rL K) a1 hp fun ps ρ2 vs S2 H2 _ a2 s2 r2 hp => ?_
  exact hp _ S2 H2 a2 (.cons (r1.up s2) r2)
theorem eo_n {ta : TA} {da : DenL} {r : List V → Hp → VK → Prop} {g : List PV → Option PV} (ha : AOk K mg W ta da) (hr : VN K r g) : EOk K mg W (tCB r ta) (dN g da) := by
  intro H₀ S₀ M S σ H ρ Q ab hp
  refine ha.bind (Rl' := rV K) ab hp fun p ρ1 v S1 H1 _ a1 _ r1 hp => ?_
  cases e : g p with
  | none => rw [e] at hp; exact hp.elim
  | some z =>
    rw [e] at hp
    exact hr S1 H1 v p z Q a1.sub r1 e fun v' S2 H2 st rz => hp v' S2 H2 (a1.step st) rz
theorem fo_n {ta : TA} {da : DenL} {r : List V → Hp → VK → Prop} {g : List PV → Option PV} (ha : AOk K mg W ta da) (hr : VNF K r g) : FOk K mg W (tCB r ta) (dN g da) := by
  intro H₀ S₀ M S σ H ρ Q ab hp
  refine ha.bind (Rl' := rF K) ab hp fun p ρ1 v S1 H1 _ a1 _ r1 hp => ?_
  cases e : g p with
  | none => rw [e] at hp; exact hp.elim
  | some z =>
    rw [e] at hp
    exact hr S1 H1 v p z Q a1.sub r1 e fun a o n w => hp _ S1 _ (a1.fresh n w).1 (a1.fresh n w).2
/-- one argument, a slot that is only looked at -/
theorem eo_nv {i : Nat} {r : List V → Hp → VK → Prop} {g : List PV → Option PV} (hr : VN K r g) (hs : ∀ p z, g [p] = some z → z.sc = true) : EOk K mg W (tCB r (tCons (tVar i) tNil)) (d1v (fun p => g [p]) i) := by
  intro H₀ S₀ M S σ H ρ Q ab hp
  unfold d1v at hp
  cases e0 : slot ρ i with
  | none => rw [e0] at hp; exact hp.elim
  | some p =>
    rw [e0] at hp
    obtain ⟨v, S2, hv, s2, s3, r2⟩ := ab.look e0
    refine ⟨v, hv, ?_⟩
    cases e : g [p] with
    | none => simp only [e] at hp; exact hp.elim
    | some z =>
      simp only [e] at hp
      exact hr S2 H [v] [p] z Q s3 (.cons r2 .nil) e fun v' S3 H3 st rz => hp v' S H3 (ab.step (step_of ab.sub st)) (rz.sc (hs _ _ e))
theorem eo_if {tc : TT} {dc : DenB} {ta tb : TE} {da db : Den} (hc : TOk K mg W tc dc) (ha : EOk K mg W ta da) (hb : EOk K mg W tb db) : EOk K mg W (tIf tc ta tb) (dIf dc da db) := by
  intro H₀ S₀ M S σ H ρ Q ab hp
  refine hc.bind (Rl' := rV K) ab hp fun c ρ1 b S1 H1 _ a1 _ r1 hp => ?_
  cases r1
  cases c with
  | true => exact ha H₀ S₀ M S1 σ H1 ρ1 Q a1 hp
  | false => exact hb H₀ S₀ M S1 σ H1 ρ1 Q a1 hp
theorem to_and {ta tb : TT} {da db : DenB} (ha : TOk K mg W ta da) (hb : TOk K mg W tb db) : TOk K mg W (tAnd ta tb) (bAnd da db) := by
  intro H₀ S₀ M S σ H ρ Q ab hp
  refine ha.bind (Rl' := rB) ab hp fun c ρ1 b S1 H1 _ a1 _ r1 hp => ?_
  cases r1
  cases c with
  | true => exact hb H₀ S₀ M S1 σ H1 ρ1 Q a1 hp
  | false => exact hp false S1 H1 a1 rfl
theorem to_or {ta tb : TT} {da db : DenB} (ha : TOk K mg W ta da) (hb : TOk K mg W tb db) : TOk K mg W (tOr ta tb) (bOr da db) := by
  intro H₀ S₀ M S σ H ρ Q ab hp
  refine ha.bind (Rl' := rB) ab hp fun c ρ1 b S1 H1 _ a1 _ r1 hp => ?_
  cases r1
  cases c with
  | true => exact hp true S1 H1 a1 rfl
  | false => exact hb H₀ S₀ M S1 σ H1 ρ1 Q a1 hp
theorem to_not {ta : TT} {da : DenB} (ha : TOk K mg W ta da) : TOk K mg W (tNot ta) (bNot da) := by
  intro H₀ S₀ M S σ H ρ Q ab hp
  refine ha.bind (Rl' := rB) ab hp fun c ρ1 b S1 H1 _ a1 _ r1 hp => ?_
  cases r1
  exact hp _ S1 H1 a1 rfl
theorem to_val {ta : TE} {da : Den} (ha : EOk K mg W ta da) : TOk K mg W (tTest ta) (bVal da) := by
  intro H₀ S₀ M S σ H ρ Q ab hp
  refine ha.bind (Rl' := rB) ab hp fun p ρ1 v S1 H1 _ a1 _ r1 hp => ?_
  cases p with
  | bl b =>
    cases r1
    exact ⟨b, rfl, hp b S1 H1 a1 rfl⟩
  | _ => exact hp.elim
theorem to_tru {ta : TE} {da : Den} {r : V → Hp → (Bool → Hp → Prop) → Prop} (ha : EOk K mg W ta da) (hr : VT K r truth) : TOk K mg W (fun σ H Q => ta σ H fun x H' => r x H' Q) (bTru da) := by
  intro H₀ S₀ M S σ H ρ Q ab hp
  refine ha.bind (Rl' := rB) ab hp fun p ρ1 v S1 H1 _ a1 _ r1 hp => ?_
  cases e : truth p with
  | none => rw [e] at hp; exact hp.elim
  | some z =>
    rw [e] at hp
    exact hr S1 H1 v p z Q a1.sub r1 e (hp z S1 H1 a1 rfl)
theorem to_truv {i : Nat} {r : V → Hp → (Bool → Hp → Prop) → Prop} (hr : VT K r truth) : TOk K mg W (fun σ H Q => tVar i σ H fun x H' => r x H' Q) (bTruV i) := by
  intro H₀ S₀ M S σ H ρ Q ab hp
  unfold bTruV at hp
  cases e0 : slot ρ i with
  | none => rw [e0] at hp; exact hp.elim
  | some p =>
    rw [e0] at hp
    obtain ⟨v, S2, hv, s2, s3, r2⟩ := ab.look e0
    refine ⟨v, hv, ?_⟩
    cases e : truth p with
    | none => simp only [e] at hp; exact hp.elim
    | some z =>
      simp only [e] at hp
      exact hr S2 H v p z Q s3 r2 e (hp z S H ab rfl)
end
end PL

set_option Elab.async false
set_option linter.all false
set_option maxRecDepth 100000
set_option maxHeartbeats 4000000
namespace PL
open PySem PySem.Spec L2
set_option autoImplicit false

inductive RS where
  | bad | exc (x : Exn) (ρ : Env) | nx (ρ : Env) | rt (p : PV) (ρ : Env) | bk (ρ : Env) | ct (ρ : Env)
def Rs.bindS {α : Type} (r : Rs α) (k : α → Env → RS) : RS := match r with
  | .bad => .bad
  | .exc x ρ => .exc x ρ
  | .ok a ρ => k a ρ
@[simp] theorem bindS_ok {α : Type} (a : α) (ρ : Env) (k : α → Env → RS) : (Rs.ok a ρ).bindS k = k a ρ := id rfl
@[simp] theorem bindS_exc {α : Type} (x : Exn) (ρ : Env) (k : α → Env → RS) : (Rs.exc x ρ).bindS k = .exc x ρ := id rfl
@[simp] theorem bindS_bad {α : Type} (k : α → Env → RS) : (Rs.bad : Rs α).bindS k = .bad := id rfl
abbrev DenS := Env → RS
/-- how a value comes back: fresh or shared -/
def RetRep (fr : Bool) (K : PySem.W.Frag) (H₀ S H : Hp) (σ : St) (ρ : Env) (p : PV) (v : V) : Prop := if fr = true then Fr K H₀ S H σ ρ p v else Rep K S p v
def SPost (K : PySem.W.Frag) (mg : Str → Option Value) (W : WX) (fr : Bool) (H₀ S₀ : Hp) (M : Addr → Prop) (r : RS) (D : Ends) : Prop :=
  match r with
  | .bad => False
  | .exc x ρ' => ∀ cls dd S' σ' H', Abs K H₀ S₀ M S' σ' H' ρ' → ExcRep K mg S' H' x cls dd → W cls dd σ' H'
  | .nx ρ' => ∀ S' σ' H', Abs K H₀ S₀ M S' σ' H' ρ' → D.nx σ' H'
  | .bk ρ' => ∀ S' σ' H', Abs K H₀ S₀ M S' σ' H' ρ' → D.bk σ' H'
  | .ct ρ' => ∀ S' σ' H', Abs K H₀ S₀ M S' σ' H' ρ' → D.ct σ' H'
  | .rt p ρ' => ∀ v S' σ' H', Abs K H₀ S₀ M S' σ' H' ρ' → RetRep fr K H₀ S' H' σ' ρ' p v → D.rt v H'
def SOk (K : PySem.W.Frag) (mg : Str → Option Value) (W : WX) (fr : Bool) (t : TS) (d : DenS) : Prop :=
  ∀ (H₀ S₀ : Hp) (M : Addr → Prop) (S : Hp) (σ : St) (H : Hp) (ρ : Env) (D : Ends), Abs K H₀ S₀ M S σ H ρ → SPost K mg W fr H₀ S₀ M (d ρ) D → t D σ H

section
variable {K : PySem.W.Frag} {mg : Str → Option Value} {W : WX} {fr : Bool} {H₀ S₀ : Hp} {M : Addr → Prop} {S H : Hp} {σ : St} {ρ : Env}
/-- the same ends, over a later base -/
theorem SPost.rebase {S1 σ1 H1 ρ1} (ab : Abs K H₀ S₀ M S1 σ1 H1 ρ1) {r : RS} {D : Ends} (h : SPost K mg W fr H₀ S₀ M r D) : SPost K mg W fr H₀ S1 M r D := by
  cases r with
  | bad => exact h
  | exc x ρ' => exact fun cls dd S' σ' H' a r => h cls dd S' σ' H' (ab.unbase a) r
  | nx ρ' => exact fun S' σ' H' a => h S' σ' H' (ab.unbase a)
  | bk ρ' => exact fun S' σ' H' a => h S' σ' H' (ab.unbase a)
  | ct ρ' => exact fun S' σ' H' a => h S' σ' H' (ab.unbase a)
  | rt p ρ' => exact fun v S' σ' H' a r => h v S' σ' H' (ab.unbase a) r
theorem XOk.bindS {α β : Type} {Rl : RelT α β} {t : St → Hp → (β → Hp → Prop) → Prop} {d : Env → Rs α} (h : XOk K mg W Rl t d) (ab : Abs K H₀ S₀ M S σ H ρ) {k : α → Env → RS} {D : Ends} {Q1 : β → Hp → Prop}
    (hp : SPost K mg W fr H₀ S₀ M ((d ρ).bindS k) D)
    (hk : ∀ a ρ1 b S1 H1, d ρ = .ok a ρ1 → Abs K H₀ S₀ M S1 σ H1 ρ1 → Same S S1 → Rl H₀ S1 H1 σ ρ1 a b → SPost K mg W fr H₀ S₀ M (k a ρ1) D → Q1 b H1) : t σ H Q1 := by
  refine h H₀ S M S σ H ρ Q1 ab.rebase ?_
  cases e : d ρ with
  | bad => rw [e] at hp; exact hp
  | exc x ρ1 =>
    rw [e] at hp
    exact fun cls dd S' H' a1 r => hp cls dd S' σ H' (ab.unbase a1) r
  | ok a ρ1 =>
    rw [e] at hp
    exact fun b S1 H1 a1 r => hk a ρ1 b S1 H1 e (ab.unbase a1) a1.base r hp

/-! ### small statements -/
def sNx : DenS := fun ρ => .nx ρ
def sBk : DenS := fun ρ => .bk ρ
def sCt : DenS := fun ρ => .ct ρ
def sSeq (a b : DenS) : DenS := fun ρ => match a ρ with
  | .nx ρ1 => b ρ1
  | r => r
def sExpr (da : Den) : DenS := fun ρ => (da ρ).bindS fun _ ρ1 => .nx ρ1
def sRet (da : Den) : DenS := fun ρ => (da ρ).bindS fun p ρ1 => .rt p ρ1
def sRetN : DenS := fun ρ => .rt .non ρ
def sRetO (i : Nat) : DenS := fun ρ => match ρ[i]? with
  | some (.ow p) => .rt p (ρ.set i .un)
  | _ => .bad
def sIf (dc : DenB) (a b : DenS) : DenS := fun ρ => (dc ρ).bindS fun c ρ1 => if c = true then a ρ1 else b ρ1
def sSet (i : Nat) (da : Den) : DenS := fun ρ => (da ρ).bindS fun p ρ1 => .nx (ρ1.set i (.sh p))
def sSetF (i : Nat) (da : Den) : DenS := fun ρ => (da ρ).bindS fun p ρ1 => .nx (ρ1.set i (.ow p))
abbrev DenG := PV → Env → Option Env
def sAsg (da : Den) (dg : DenG) : DenS := fun ρ => (da ρ).bindS fun p ρ1 => match dg p ρ1 with
  | some ρ2 => .nx ρ2
  | none => .bad
def sAug (i : Nat) (g : PV → PV → Option PV) (da : Den) : DenS := fun ρ => match slot ρ i with
  | none => .bad
  | some _ => (da ρ).bindS fun q ρ1 => match slot ρ1 i with
    | none => .bad
    | some p => match g p q with
      | some z => .nx (ρ1.set i (.sh z))
      | none => .bad
def gName (i : Nat) : DenG := fun p ρ => some (ρ.set i (.sh p))
def GOk (K : PySem.W.Frag) (g : TG) (dg : DenG) : Prop :=
  ∀ (H₀ S₀ : Hp) (M : Addr → Prop) (S : Hp) (σ : St) (H : Hp) (ρ ρ' : Env) (p : PV) (v : V) (Q : St → Hp → Prop), Abs K H₀ S₀ M S σ H ρ → Rep K S p v → dg p ρ = some ρ' → (∀ σ', Abs K H₀ S₀ M S σ' H ρ' → Q σ' H) → g v σ H Q
def GsOk (K : PySem.W.Frag) (g : TGs) (dg : List PV → Env → Option Env) : Prop :=
  ∀ (H₀ S₀ : Hp) (M : Addr → Prop) (S : Hp) (σ : St) (H : Hp) (ρ ρ' : Env) (ps : List PV) (vs : List V) (Q : St → Hp → Prop), Abs K H₀ S₀ M S σ H ρ → RepL K S ps vs → dg ps ρ = some ρ' → (∀ σ', Abs K H₀ S₀ M S σ' H ρ' → Q σ' H) → g vs σ H Q
def gsNil : List PV → Env → Option Env
  | [], ρ => some ρ
  | _ :: _, _ => none
def gsCons (a : DenG) (b : List PV → Env → Option Env) : List PV → Env → Option Env
  | [], _ => none
  | p :: ps, ρ => (a p ρ).bind (b ps)
def gTup (b : List PV → Env → Option Env) : DenG := fun p ρ => match p with
  | .tup ps => b ps ρ
  | _ => none
theorem go_name {i : Nat} : GOk K (L2.gName i) (gName i) := fun H₀ S₀ M S σ H ρ ρ' p v Q ab r e h => by
  cases e
  exact h _ (ab.setSh r)
theorem gso_nil : GsOk K L2.gNil gsNil := fun H₀ S₀ M S σ H ρ ρ' ps vs Q ab r e h => by
  cases r with
  | nil =>
    cases e
    exact ⟨rfl, h _ ab⟩
  | cons _ _ => cases e
theorem gso_cons {g : TG} {dg : DenG} {gs : TGs} {dgs : List PV → Env → Option Env} (h1 : GOk K g dg) (h2 : GsOk K gs dgs) : GsOk K (L2.gCons g gs) (gsCons dg dgs) := fun H₀ S₀ M S σ H ρ ρ' ps vs Q ab r e h => by
  cases r with
  | nil => cases e
  | cons r1 r2 =>
    rename_i p v ps vs
    unfold gsCons at e
    cases e1 : dg p ρ with
    | none => simp only [e1] at e; cases e
    | some ρ1 =>
      simp only [e1] at e
      exact ⟨_, _, rfl, h1 H₀ S₀ M S σ H ρ ρ1 p v _ ab r1 e1 fun σ1 a1 => h2 H₀ S₀ M S σ1 H ρ1 ρ' ps vs Q a1 r2 e h⟩
theorem gsCons_len {n : Nat} {dg : DenG} {dgs : List PV → Env → Option Env} (h : ∀ ps ρ ρ', dgs ps ρ = some ρ' → ps.length = n) : ∀ ps ρ ρ', gsCons dg dgs ps ρ = some ρ' → ps.length = n + 1
  | [], _, _, e => by cases e
  | p :: ps, ρ, ρ', e => by
    unfold gsCons at e
    cases e1 : dg p ρ with
    | none => simp only [e1] at e; cases e
    | some ρ1 =>
      simp only [e1] at e
      rw [List.length_cons, h ps ρ1 ρ' e]
theorem gsNil_len : ∀ ps ρ ρ', gsNil ps ρ = some ρ' → ps.length = 0
  | [], _, _, _ => rfl
  | _ :: _, _, _, e => by cases e
theorem go_tup {n : Nat} {gs : TGs} {dgs : List PV → Env → Option Env} (h1 : GsOk K gs dgs) (hn : ∀ ps ρ ρ', dgs ps ρ = some ρ' → ps.length = n) : GOk K (L2.gTup K n gs) (gTup dgs) := fun H₀ S₀ M S σ H ρ ρ' p v Q ab r e h => by
  cases p with
  | tup ps =>
    cases r with
    | tup hs hr =>
      refine ⟨_, _, rfl, .inl (.inl (ab.sub _ _ hs)), ?_, h1 H₀ S₀ M S σ H ρ ρ' ps _ Q ab hr e h⟩
      rw [← hr.length]
      exact hn ps ρ ρ' e
  | _ => cases e

theorem so_nx : SOk K mg W fr tNext sNx := fun H₀ S₀ M S σ H ρ D ab hp => hp S σ H ab
theorem so_bk : SOk K mg W fr tBreak sBk := fun H₀ S₀ M S σ H ρ D ab hp => hp S σ H ab
theorem so_ct : SOk K mg W fr tCont sCt := fun H₀ S₀ M S σ H ρ D ab hp => hp S σ H ab
theorem so_seq {t u : TS} {a b : DenS} (ha : SOk K mg W fr t a) (hb : SOk K mg W fr u b) : SOk K mg W fr (tSeq t u) (sSeq a b) := fun H₀ S₀ M S σ H ρ D ab hp => by
  refine ha H₀ S₀ M S σ H ρ _ ab ?_
  unfold sSeq at hp
  cases e : a ρ with
  | nx ρ1 =>
    rw [e] at hp
    exact fun S' σ' H' a1 => hb H₀ S₀ M S' σ' H' ρ1 D a1 hp
  | bad => rw [e] at hp; exact hp
  | exc x ρ1 => rw [e] at hp; exact hp
  | rt p ρ1 => rw [e] at hp; exact hp
  | bk ρ1 => rw [e] at hp; exact hp
  | ct ρ1 => rw [e] at hp; exact hp
theorem so_expr {te : TE} {da : Den} (ha : EOk K mg W te da) : SOk K mg W fr (tDrop te) (sExpr da) := fun H₀ S₀ M S σ H ρ D ab hp =>
  ha.bindS ab hp fun p ρ1 v S1 H1 _ a1 _ r hp => hp S1 σ H1 a1
theorem so_ret {te : TE} {da : Den} (ha : EOk K mg W te da) : SOk K mg W false (tRet te) (sRet da) := fun H₀ S₀ M S σ H ρ D ab hp =>
  ha.bindS ab hp fun p ρ1 v S1 H1 _ a1 _ r hp => hp v S1 σ H1 a1 r
theorem so_retF {te : TE} {da : Den} (ha : FOk K mg W te da) : SOk K mg W true (tRet te) (sRet da) := fun H₀ S₀ M S σ H ρ D ab hp =>
  ha.bindS ab hp fun p ρ1 v S1 H1 _ a1 _ r hp => hp v S1 σ H1 a1 r
theorem so_retN : SOk K mg W false tRetN sRetN := fun H₀ S₀ M S σ H ρ D ab hp => hp .non S σ H ab .non
theorem so_retO {i : Nat} : SOk K mg W true (tRet (tVar i)) (sRetO i) := fun H₀ S₀ M S σ H ρ D ab hp => by
  unfold sRetO at hp
  cases e : ρ[i]? with
  | none => rw [e] at hp; exact hp.elim
  | some s =>
    rw [e] at hp
    cases s with
    | ow p =>
      obtain ⟨a, o, h1, h2, h3, h4, h5, h6⟩ := ab.own i _ _ e rfl
      have hi : i < ρ.length := (List.getElem?_eq_some_iff.mp e).1
      have ne : ∀ {j : Nat} {s : Sl}, (ρ.set i .un)[j]? = some s → s ≠ .un → j ≠ i ∧ ρ[j]? = some s := fun {j s} ej hs => by
        by_cases hj : j = i
        · subst hj
          rw [List.getElem?_set_self hi] at ej
          cases ej
          exact absurd rfl hs
        · rw [List.getElem?_set_ne (Ne.symm hj)] at ej
          exact ⟨hj, ej⟩
      have nu : ∀ {s : Sl} {q : PV}, s.own? = some q → s ≠ .un := fun {s q} h z => by subst z; cases h
      refine ⟨.ref a, h1, hp (.ref a) S σ H ⟨by rw [List.length_set]; exact ab.len, ab.sub, ab.base, ab.grow, ab.keep, ab.there, fun j q ej => ab.sh j q (ne ej (by intro z; cases z)).2, fun j s q ej es => ab.own j s q (ne ej (nu es)).2 es,
        fun j k s t q r c ej es ek et z z' => ab.dis j k s t q r c (ne ej (nu es)).2 es (ne ek (nu et)).2 et z z'⟩ ?_⟩
      exact ⟨a, o, rfl, h2 rfl, h4, h5, h6, fun j s q ej es z => (ne ej (nu es)).1 (ab.dis j i _ _ _ _ a (ne ej (nu es)).2 es e rfl z h1)⟩
    | _ => exact hp.elim
theorem so_if {tc : TT} {dc : DenB} {t u : TS} {a b : DenS} (hc : TOk K mg W tc dc) (ha : SOk K mg W fr t a) (hb : SOk K mg W fr u b) : SOk K mg W fr (tIfS tc t u) (sIf dc a b) := fun H₀ S₀ M S σ H ρ D ab hp =>
  hc.bindS ab hp fun c ρ1 b' S1 H1 _ a1 _ r hp => by
    cases r
    cases c with
    | true => exact ha H₀ S₀ M S1 σ H1 ρ1 D a1 hp
    | false => exact hb H₀ S₀ M S1 σ H1 ρ1 D a1 hp
theorem so_set {i : Nat} {te : TE} {da : Den} (ha : EOk K mg W te da) : SOk K mg W fr (tAsg te (L2.gName i)) (sSet i da) := fun H₀ S₀ M S σ H ρ D ab hp =>
  ha.bindS ab hp fun p ρ1 v S1 H1 _ a1 _ r hp => hp S1 _ H1 (a1.setSh r)
theorem so_setF {i : Nat} {te : TE} {da : Den} (ha : FOk K mg W te da) : SOk K mg W fr (tAsg te (L2.gName i)) (sSetF i da) := fun H₀ S₀ M S σ H ρ D ab hp =>
  ha.bindS ab hp fun p ρ1 v S1 H1 _ a1 _ r hp => hp S1 _ H1 (a1.setOw r)
theorem so_asg {te : TE} {da : Den} {g : TG} {dg : DenG} (ha : EOk K mg W te da) (hg : GOk K g dg) : SOk K mg W fr (tAsg te g) (sAsg da dg) := fun H₀ S₀ M S σ H ρ D ab hp =>
  ha.bindS ab hp fun p ρ1 v S1 H1 _ a1 _ r hp => by
    cases e : dg p ρ1 with
    | none => simp only [e] at hp; exact hp.elim
    | some ρ2 =>
      simp only [e] at hp
      exact hg H₀ S₀ M S1 σ H1 ρ1 ρ2 p v _ a1 r e fun σ' a2 => hp S1 σ' H1 a2
theorem so_aug {i : Nat} {te : TE} {da : Den} {r : R2} {g : PV → PV → Option PV} (ha : EOk K mg W te da) (hr : V2 K r g) (hs : ∀ p q z, g p q = some z → z.sc = true) : SOk K mg W fr (tAug i te r) (sAug i g da) := fun H₀ S₀ M S σ H ρ D ab hp => by
  unfold sAug at hp
  cases e0 : slot ρ i with
  | none => rw [e0] at hp; exact hp.elim
  | some p0 =>
    rw [e0] at hp
    obtain ⟨v, _, hv, _⟩ := ab.look e0
    refine ⟨v, hv, ha.bindS ab hp fun q ρ1 u S1 H1 _ a1 _ r1 hp => ?_⟩
    cases e1 : slot ρ1 i with
    | none => rw [e1] at hp; exact hp.elim
    | some p =>
      rw [e1] at hp
      obtain ⟨v', S2, hv', s2, s3, r2⟩ := a1.look e1
      rw [hv] at hv'
      cases hv'
      cases e : g p q with
      | none => simp only [e] at hp; exact hp.elim
      | some z =>
        simp only [e] at hp
        exact hr S2 H1 v u p q z _ s3 r2 (r1.up s2) e fun v' S3 H3 st rz => hp S1 _ H3 ((a1.step (step_of a1.sub st)).setSh (rz.sc (hs _ _ _ e)))

/-! ### what changes an owned object in a slot -/
/-- by values: the object at b, the arguments; g: what it becomes, what comes back -/
def MutOk (K : PySem.W.Frag) (r : V → List V → Hp → VK → Prop) (g : PV → List PV → Option (PV × PV)) : Prop :=
  ∀ (S H : Hp) (b : Addr) (o : HO) (p q z : PV) (ps : List PV) (vs : List V) (Q : VK), Same S H → S b = none → H b = some o → OwnO K S p o → RepL K S ps vs → g p ps = some (q, z) → (∀ o' v, OwnO K S q o' → Rep K S z v → Q v (upd H b o')) → r (.ref b) vs H Q
def ownAt (ρ : Env) (i : Nat) : Option (Sl × PV) := match ρ[i]? with
  | some (.ow p) => some (.ow p, p)
  | some (.io p) => some (.io p, p)
  | _ => none
theorem ownAt_some {ρ : Env} {i : Nat} {s : Sl} {p : PV} (h : ownAt ρ i = some (s, p)) : ρ[i]? = some s ∧ s.own? = some p := by
  unfold ownAt at h
  split at h
  · cases h; exact ⟨by assumption, rfl⟩
  · cases h; exact ⟨by assumption, rfl⟩
  · cases h
def isT (T : String) : PV → Bool
  | .lst _ => T = "list"
  | .dic _ _ _ => T = "dict"
  | _ => false
theorem tyV_own {S H : Hp} {T : String} {p : PV} {a : Addr} {o : HO} (h : H a = some o) (w : OwnO K S p o) (t : isT T p = true) : tyV K T (.ref a) H := by
  unfold OwnO at w
  split at w
  · exact .inl ⟨by simpa [isT] using t, _, .inl (.inl h)⟩
  · exact .inr (.inr (.inl ⟨by simpa [isT] using t, .inl ⟨_, h⟩⟩))
  · exact .inr (.inr (.inl ⟨by simpa [isT] using t, .inr ⟨_, h⟩⟩))
  · exact w.elim
def dMut (T : String) (g : PV → List PV → Option (PV × PV)) (i : Nat) (da : DenL) : Den := fun ρ => match ownAt ρ i with
  | none => .bad
  | some (_, p0) => if isT T p0 = true then (da ρ).bind fun ps ρ1 => match ownAt ρ1 i with
    | none => .bad
    | some (s, p) => match g p ps with
      | none => .bad
      | some (q, z) => .ok z (ρ1.set i (s.with q))
    else .bad
theorem eo_mut {T : String} {i : Nat} {ta : TA} {da : DenL} {r : V → List V → Hp → VK → Prop} {g : PV → List PV → Option (PV × PV)} (ha : AOk K mg W ta da) (hr : MutOk K r g) : EOk K mg W (tBM K T r (tVar i) ta) (dMut T g i da) := fun H₀ S₀ M S σ H ρ Q ab hp => by
  unfold dMut at hp
  cases e0 : ownAt ρ i with
  | none => rw [e0] at hp; exact hp.elim
  | some sp =>
    obtain ⟨s0, p0⟩ := sp
    rw [e0] at hp
    by_cases ht : isT T p0 = true
    · simp only [if_pos ht] at hp
      obtain ⟨e1, e2⟩ := ownAt_some e0
      obtain ⟨b, o, h1, h2, h3, h4, h5, h6⟩ := ab.own i _ _ e1 e2
      refine ⟨.ref b, h1, tyV_own h5 h6 ht, ?_⟩
      refine ha.bind (Rl' := rV K) ab hp fun ps ρ1 vs S1 H1 _ a1 s1 r1 hp => ?_
      cases e3 : ownAt ρ1 i with
      | none => rw [e3] at hp; exact hp.elim
      | some sp =>
        obtain ⟨s, p⟩ := sp
        rw [e3] at hp
        obtain ⟨e4, e5⟩ := ownAt_some e3
        obtain ⟨b', o', k1, k2, k3, k4, k5, k6⟩ := a1.own i _ _ e4 e5
        rw [h1] at k1
        cases k1
        cases e6 : g p ps with
        | none => simp only [e6] at hp; exact hp.elim
        | some qz =>
          obtain ⟨q, z⟩ := qz
          simp only [e6] at hp
          exact hr S1 H1 b o' p q z ps vs Q a1.sub k4 k5 k6 r1 e6 fun o2 v w2 rz => hp v S1 _ (a1.mut e4 e5 h1 w2) rz
    · simp only [if_neg ht] at hp
      exact hp.elim
def dMut0 (T : String) (g : PV → List PV → Option (PV × PV)) (i : Nat) : Den := fun ρ => match ownAt ρ i with
  | none => .bad
  | some (s, p) => if isT T p = true then (match g p [] with
      | none => .bad
      | some (q, z) => .ok z (ρ.set i (s.with q))) else .bad
theorem eo_mut0 {T : String} {i : Nat} {r : V → List V → Hp → VK → Prop} {g : PV → List PV → Option (PV × PV)} (hr : MutOk K r g) : EOk K mg W (tBM0 K T r (tVar i)) (dMut0 T g i) := fun H₀ S₀ M S σ H ρ Q ab hp => by
  unfold dMut0 at hp
  cases e0 : ownAt ρ i with
  | none => rw [e0] at hp; exact hp.elim
  | some sp =>
    obtain ⟨s, p⟩ := sp
    rw [e0] at hp
    by_cases ht : isT T p = true
    · simp only [if_pos ht] at hp
      obtain ⟨e1, e2⟩ := ownAt_some e0
      obtain ⟨b, o, h1, h2, h3, h4, h5, h6⟩ := ab.own i _ _ e1 e2
      refine ⟨.ref b, h1, tyV_own h5 h6 ht, ?_⟩
      cases e6 : g p [] with
      | none => simp only [e6] at hp; exact hp.elim
      | some qz =>
        obtain ⟨q, z⟩ := qz
        simp only [e6] at hp
        exact hr S H b o p q z [] [] Q ab.sub h4 h5 h6 .nil e6 fun o2 v w2 rz => hp v S _ (ab.mut e1 e2 h1 w2) rz
    · simp only [if_neg ht] at hp
      exact hp.elim
/-- x[e] = v by values -/
def SetOk (K : PySem.W.Frag) (t : TSet) (g : PV → PV → PV → Option PV) : Prop :=
  ∀ (S H : Hp) (b : Addr) (o : HO) (p i e q : PV) (x y : V) (Q : Hp → Prop), Same S H → S b = none → H b = some o → OwnO K S p o → Rep K S i x → Rep K S e y → g p i e = some q → (∀ o', OwnO K S q o' → Q (upd H b o')) → t (.ref b) x y H Q
def sSub (g : PV → PV → PV → Option PV) (i : Nat) (di da : Den) : DenS := fun ρ => (da ρ).bindS fun e ρ1 => match ownAt ρ1 i with
  | none => .bad
  | some _ => (di ρ1).bindS fun k ρ2 => match ownAt ρ2 i with
    | none => .bad
    | some (s, p) => match g p k e with
      | none => .bad
      | some q => .nx (ρ2.set i (s.with q))
theorem so_sub {i : Nat} {ti te : TE} {di da : Den} {t : TSet} {g : PV → PV → PV → Option PV} (hi : EOk K mg W ti di) (ha : EOk K mg W te da) (hr : SetOk K t g) : SOk K mg W fr (tAsg te (gSub (tVar i) ti t)) (sSub g i di da) := fun H₀ S₀ M S σ H ρ D ab hp =>
  ha.bindS ab hp fun e ρ1 y S1 H1 _ a1 _ ry hp => by
    cases e0 : ownAt ρ1 i with
    | none => rw [e0] at hp; exact hp.elim
    | some sp =>
      obtain ⟨s0, p0⟩ := sp
      rw [e0] at hp
      obtain ⟨e1, e2⟩ := ownAt_some e0
      obtain ⟨b, o, h1, h2, h3, h4, h5, h6⟩ := a1.own i _ _ e1 e2
      refine ⟨.ref b, h1, ?_⟩
      refine hi.bindS a1 hp fun k ρ2 x S2 H2 _ a2 s2 rx hp => ?_
      cases e3 : ownAt ρ2 i with
      | none => rw [e3] at hp; exact hp.elim
      | some sp =>
        obtain ⟨s, p⟩ := sp
        rw [e3] at hp
        obtain ⟨e4, e5⟩ := ownAt_some e3
        obtain ⟨b', o', k1, k2, k3, k4, k5, k6⟩ := a2.own i _ _ e4 e5
        rw [h1] at k1
        cases k1
        cases e6 : g p k e with
        | none => simp only [e6] at hp; exact hp.elim
        | some q =>
          simp only [e6] at hp
          exact hr S2 H2 b o' p k e q x y _ a2.sub k4 k5 k6 rx (ry.up s2) e6 fun o2 w2 => hp S2 σ _ (a2.mut e4 e5 h1 w2)

/-! ### loops -/
def ItR (K : PySem.W.Frag) (S H : Hp) (ps : List PV) (J : It) : Prop :=
  ∀ (i : Nat) (S1 H1 : Hp), Same S S1 → Same S1 H1 → (ps.length ≤ i → J.stop i H1) ∧ ∀ p, ps[i]? = some p → J.go i H1 ∧ ∀ x H2, J.yld i H1 x H2 → ∃ S2, Step S1 H1 S2 H2 ∧ Rep K S2 p x
def rIt (K : PySem.W.Frag) : RelT (List PV) It := fun _ S H _ _ ps J => ItR K S H ps J
abbrev IOk (K : PySem.W.Frag) (mg : Str → Option Value) (W : WX) (wi : TI) (d : DenL) : Prop := XOk K mg W (rIt K) wi d
def dLoop (tgt : DenG) (body : DenS) : List PV → DenS
  | [], ρ => .nx ρ
  | x :: xs, ρ => match tgt x ρ with
    | none => .bad
    | some ρ1 => match body ρ1 with
      | .nx ρ2 => dLoop tgt body xs ρ2
      | .ct ρ2 => dLoop tgt body xs ρ2
      | .bk ρ2 => .nx ρ2
      | r => r
def sFor (di : DenL) (tgt : DenG) (body : DenS) : DenS := fun ρ => (di ρ).bindS fun xs ρ1 => dLoop tgt body xs ρ1
theorem so_for {wi : TI} {di : DenL} {g : TG} {dg : DenG} {tb : TS} {db : DenS} (hi : IOk K mg W wi di) (hg : GOk K g dg) (hb : SOk K mg W fr tb db) : SOk K mg W fr (tFor wi g tb) (sFor di dg db) := fun H₀ S₀ M S σ H ρ D ab hp =>
  hi.bindS ab hp fun xs ρ1 J S1 H1 _ a1 _ rj hp => by
    refine ⟨fun i m σ H => m = xs.length - i ∧ i ≤ xs.length ∧ ∃ S ρ, Abs K H₀ S1 M S σ H ρ ∧ SPost K mg W fr H₀ S1 M (dLoop dg db (xs.drop i) ρ) D, ⟨xs.length, by simp, Nat.zero_le _, S1, ρ1, a1.rebase, by
      rw [List.drop_zero]
      exact hp.rebase a1⟩, ?_⟩
    rintro i m σ' H' ⟨rfl, hle, S', ρ', a', hp'⟩
    obtain ⟨js, jg⟩ := rj i S' H' a'.base a'.sub
    by_cases hlt : i < xs.length
    · have ex : xs[i]? = some xs[i] := List.getElem?_eq_getElem hlt
      obtain ⟨j1, j2⟩ := jg _ ex
      rw [List.drop_eq_getElem_cons hlt] at hp'
      refine .inr ⟨j1, fun σ H => i + 1 ≤ xs.length ∧ ∃ S ρ, Abs K H₀ S1 M S σ H ρ ∧ SPost K mg W fr H₀ S1 M (dLoop dg db (xs.drop (i + 1)) ρ) D, fun σ2 H2 hN => ⟨xs.length - (i + 1), by omega, rfl, hN.1, hN.2⟩, fun x H2 y => ?_⟩
      obtain ⟨S2, st, rx⟩ := j2 x H2 y
      unfold dLoop at hp'
      cases e1 : dg xs[i] ρ' with
      | none => simp only [e1] at hp'; exact hp'.elim
      | some ρ2 =>
        simp only [e1] at hp'
        refine hg H₀ S1 M S2 σ' H2 ρ' ρ2 _ x _ (a'.step st) rx e1 fun σ3 a3 => ?_
        refine hb H₀ S1 M S2 σ3 H2 ρ2 _ a3 ?_
        cases e2 : db ρ2 with
        | bad => simp only [e2] at hp'; exact hp'.elim
        | exc x ρ3 => simp only [e2] at hp'; exact hp'
        | rt p ρ3 => simp only [e2] at hp'; exact hp'
        | nx ρ3 => simp only [e2] at hp'; exact fun S4 σ4 H4 a4 => ⟨hlt, S4, ρ3, a4, hp'⟩
        | ct ρ3 => simp only [e2] at hp'; exact fun S4 σ4 H4 a4 => ⟨hlt, S4, ρ3, a4, hp'⟩
        | bk ρ3 => simp only [e2] at hp'; exact fun S4 σ4 H4 a4 => hp' S4 σ4 H4 a4
    · have ei : i = xs.length := by omega
      subst ei
      rw [List.drop_length] at hp'
      exact .inl ⟨js (Nat.le_refl _), hp' S' σ' H' a'⟩
def dWhile (dc : DenB) (db : DenS) : Nat → DenS
  | 0, _ => .bad
  | n + 1, ρ => (dc ρ).bindS fun c ρ1 => if c = true then (match db ρ1 with
      | .nx ρ2 => dWhile dc db n ρ2
      | .ct ρ2 => dWhile dc db n ρ2
      | .bk ρ2 => .nx ρ2
      | r => r) else .nx ρ1
/-- the number of turns is bounded by what the state says ahead of the loop -/
def sWhile (μ : Env → Nat) (dc : DenB) (db : DenS) : DenS := fun ρ => dWhile dc db (μ ρ) ρ
theorem so_while {μ : Env → Nat} {tc : TT} {dc : DenB} {tb : TS} {db : DenS} (hc : TOk K mg W tc dc) (hb : SOk K mg W fr tb db) : SOk K mg W fr (tWhile tc tb) (sWhile μ dc db) := fun H₀ S₀ M S σ H ρ D ab hp => by
  refine ⟨fun m σ H => ∃ S ρ, Abs K H₀ S₀ M S σ H ρ ∧ SPost K mg W fr H₀ S₀ M (dWhile dc db m ρ) D, ⟨μ ρ, S, ρ, ab, hp⟩, ?_⟩
  rintro m σ' H' ⟨S', ρ', a', hp'⟩
  cases m with
  | zero => exact hp'.elim
  | succ n =>
    unfold dWhile at hp'
    refine hc.bindS a' hp' fun c ρ1 b S1 H1 _ a1 _ r hp' => ?_
    cases r
    cases c with
    | false => exact hp' S1 σ' H1 a1
    | true =>
      refine ⟨fun σ H => ∃ S ρ, Abs K H₀ S₀ M S σ H ρ ∧ SPost K mg W fr H₀ S₀ M (dWhile dc db n ρ) D, fun σ2 H2 h2 => ⟨n, Nat.lt_succ_self _, h2⟩, ?_⟩
      refine hb H₀ S₀ M S1 σ' H1 ρ1 _ a1 ?_
      simp only [if_true] at hp'
      cases e2 : db ρ1 with
      | bad => simp only [e2] at hp'; exact hp'.elim
      | exc x ρ3 => simp only [e2] at hp'; exact hp'
      | rt p ρ3 => simp only [e2] at hp'; exact hp'
      | nx ρ3 => simp only [e2] at hp'; exact fun S4 σ4 H4 a4 => ⟨S4, ρ3, a4, hp'⟩
      | ct ρ3 => simp only [e2] at hp'; exact fun S4 σ4 H4 a4 => ⟨S4, ρ3, a4, hp'⟩
      | bk ρ3 => simp only [e2] at hp'; exact fun S4 σ4 H4 a4 => hp' S4 σ4 H4 a4
end
end PL

set_option Elab.async false
set_option linter.all false
set_option maxRecDepth 100000
set_option maxHeartbeats 4000000
namespace PL
open PySem PySem.Spec L2
set_option autoImplicit false

/-! ### comprehensions -/
def Sl.lock : Sl → Sl
  | .ow p => .io p
  | s => s
def Sl.isOw : Sl → Bool
  | .ow _ => true
  | _ => false
/-- the owned slots are lent to the block, its own names are free -/
def lockE : List Nat → Env → Env
  | [], ρ => ρ.map Sl.lock
  | i :: is, ρ => (lockE is ρ).set i .un
def Sl.back : Sl → Sl → Sl
  | .ow _, .io q => .ow q
  | .io _, .io q => .io q
  | _, .sh p => .sh p
  | _, _ => .un
def clean : Sl → Sl
  | .sh p => .sh p
  | _ => .un
def backE (own : List Nat) (ρ ρ' : Env) : Env := (List.range ρ.length).map fun i => if own.contains i then clean (ρ.getD i .un) else Sl.back (ρ.getD i .un) (ρ'.getD i .un)
def noOw : Env → Bool
  | [] => true
  | s :: r => !s.isOw && noOw r
def wipeE : List Nat → Env → Env
  | [], ρ => ρ
  | i :: is, ρ => (wipeE is ρ).set i .un
def lcLoop (own : List Nat) (tgt : DenG) (test : DenB) (elt : Den) : List PV → Env → Option (List PV × Env)
  | [], ρ => some ([], ρ)
  | x :: xs, ρ => match tgt x ρ with
    | none => none
    | some ρ1 => match test ρ1 with
      | .ok true ρ2 => match elt ρ2 with
        | .ok y ρ3 => if noOw ρ3 = true then (match lcLoop own tgt test elt xs (wipeE own ρ3) with
            | some (ys, ρ4) => some (y :: ys, ρ4)
            | none => none) else none
        | _ => none
      | .ok false ρ2 => if noOw ρ2 = true then lcLoop own tgt test elt xs (wipeE own ρ2) else none
      | _ => none
def dLc (own : List Nat) (di : DenL) (tgt : DenG) (test : DenB) (elt : Den) : Den := fun ρ => (di ρ).bind fun xs ρ1 => match lcLoop own tgt test elt xs (lockE own ρ1) with
  | some (ys, ρ2) => if ys.length ≤ 1000000 then .ok (.lst ys) (backE own ρ1 ρ2) else .bad
  | none => .bad
theorem noOw_get : ∀ {ρ : Env} {i : Nat} {p : PV}, noOw ρ = true → ρ[i]? ≠ some (.ow p)
  | [], i, p, _ => by simp
  | s :: r, 0, p, h => by
    intro e
    simp at e
    subst e
    simp [noOw, Sl.isOw] at h
  | s :: r, i + 1, p, h => by
    intro e
    simp [noOw] at h
    exact noOw_get (i := i) h.2 (by simpa using e)
section
variable {K : PySem.W.Frag} {mg : Str → Option Value} {W : WX} {H₀ S₀ : Hp} {M : Addr → Prop} {S H : Hp} {σ : St} {ρ : Env}
/-- slots lose what they held -/
theorem Abs.forget {σ' : St} {ρ' : Env} (a : Abs K H₀ S₀ M S σ H ρ) (hl : ρ'.length = σ'.length) (h : ∀ (i : Nat) s, ρ'[i]? = some s → s ≠ .un → ρ[i]? = some s ∧ σ'[i]? = σ[i]?) : Abs K H₀ S₀ M S σ' H ρ' where
  len := hl
  sub := a.sub
  base := a.base
  grow := a.grow
  keep := a.keep
  there := a.there
  sh := fun i p e => by
    obtain ⟨h1, h2⟩ := h i _ e (by intro z; cases z)
    rw [h2]
    exact a.sh i p h1
  own := fun i s p e es => by
    obtain ⟨h1, h2⟩ := h i _ e (by intro z; subst z; cases es)
    rw [h2]
    exact a.own i s p h1 es
  dis := fun i j s t p q b e es e' es' z z' => by
    obtain ⟨h1, h2⟩ := h i _ e (by intro z; subst z; cases es)
    obtain ⟨k1, k2⟩ := h j _ e' (by intro z; subst z; cases es')
    rw [h2] at z
    rw [k2] at z'
    exact a.dis i j s t p q b h1 es k1 es' z z'
theorem getElem?_wipe {i : Nat} : ∀ {own : List Nat} {σ : St}, i ∉ own → (wipe σ own)[i]? = σ[i]?
  | [], σ, _ => rfl
  | j :: js, σ, h => by
    have hj : j ≠ i := fun e => h (by simp [e])
    have hjs : i ∉ js := fun e => h (by simp [e])
    show ((wipe σ js).set j none)[i]? = σ[i]?
    rw [List.getElem?_set_ne hj]
    exact getElem?_wipe hjs
theorem wipeE_length : ∀ (own : List Nat) (ρ : Env), (wipeE own ρ).length = ρ.length
  | [], _ => rfl
  | i :: is, ρ => by
    show ((wipeE is ρ).set i .un).length = _
    rw [List.length_set, wipeE_length is ρ]
theorem wipeE_get : ∀ {own : List Nat} {ρ : Env} {i : Nat} {s : Sl}, (wipeE own ρ)[i]? = some s → s ≠ .un → i ∉ own ∧ ρ[i]? = some s
  | [], ρ, i, s, e, _ => ⟨by simp, e⟩
  | j :: js, ρ, i, s, e, n => by
    have e : ((wipeE js ρ).set j .un)[i]? = some s := e
    by_cases hj : j = i
    · subst hj
      have hi : j < (wipeE js ρ).length := by
        rcases Nat.lt_or_ge j (wipeE js ρ).length with h | h
        · exact h
        · rw [List.getElem?_eq_none (by rw [List.length_set]; exact h)] at e; cases e
      rw [List.getElem?_set_self hi] at e
      cases e
      exact absurd rfl n
    · rw [List.getElem?_set_ne hj] at e
      obtain ⟨h1, h2⟩ := wipeE_get e n
      exact ⟨by simp [h1, Ne.symm hj], h2⟩
theorem lockE_length : ∀ (own : List Nat) (ρ : Env), (lockE own ρ).length = ρ.length
  | [], ρ => by simp [lockE]
  | i :: is, ρ => by
    show ((lockE is ρ).set i .un).length = _
    rw [List.length_set, lockE_length is ρ]
theorem lockE_get : ∀ {own : List Nat} {ρ : Env} {i : Nat} {s : Sl}, (lockE own ρ)[i]? = some s → s ≠ .un → i ∉ own ∧ ∃ s', ρ[i]? = some s' ∧ s = s'.lock
  | [], ρ, i, s, e, _ => by
    have e : (ρ.map Sl.lock)[i]? = some s := e
    rw [List.getElem?_map] at e
    cases e1 : ρ[i]? with
    | none => rw [e1] at e; cases e
    | some s' =>
      rw [e1] at e
      cases e
      exact ⟨by simp, s', rfl, rfl⟩
  | j :: js, ρ, i, s, e, n => by
    have e : ((lockE js ρ).set j .un)[i]? = some s := e
    by_cases hj : j = i
    · subst hj
      have hi : j < (lockE js ρ).length := by
        rcases Nat.lt_or_ge j (lockE js ρ).length with h | h
        · exact h
        · rw [List.getElem?_eq_none (by rw [List.length_set]; exact h)] at e; cases e
      rw [List.getElem?_set_self hi] at e
      cases e
      exact absurd rfl n
    · rw [List.getElem?_set_ne hj] at e
      obtain ⟨h1, h2⟩ := lockE_get e n
      exact ⟨by simp [h1, Ne.symm hj], h2⟩
def Lent (σ : St) (ρ : Env) (a : Addr) : Prop := ∃ (i : Nat) (s : Sl) (p : PV), ρ[i]? = some s ∧ s.own? = some p ∧ σ[i]? = some (some (.ref a))
theorem wipe_len (σ : St) (own : List Nat) : (wipe σ own).length = σ.length := wipe_length σ own
/-- into the block: what stands now is the base, the owned slots are lent -/
theorem Abs.enter (own : List Nat) (a : Abs K H₀ S₀ M S σ H ρ) : Abs K H S (Lent σ ρ) S (wipe σ own) H (lockE own ρ) where
  len := by rw [lockE_length, wipe_len]; exact a.len
  sub := a.sub
  base := Same.refl _
  grow := fun _ _ e => .inl e
  keep := fun _ _ e _ => e
  there := fun b o e => ⟨o, e⟩
  sh := fun i p e => by
    obtain ⟨h1, s', h2, h3⟩ := lockE_get e (by intro z; cases z)
    rw [getElem?_wipe h1]
    cases s' with
    | sh q => cases h3; exact a.sh i _ h2
    | _ => cases h3
  own := fun i s p e es => by
    obtain ⟨h1, s', h2, h3⟩ := lockE_get e (by intro z; subst z; cases es)
    rw [getElem?_wipe h1]
    have key : ∀ q, s'.own? = some q → s = .io q ∧ p = q := fun q hq => by
      cases s' with
      | ow r => cases hq; subst h3; cases es; exact ⟨rfl, rfl⟩
      | io r => cases hq; subst h3; cases es; exact ⟨rfl, rfl⟩
      | un => cases hq
      | sh r => cases hq
    have hs' : s'.own? = some p := by
      cases s' with
      | ow r => subst h3; cases es; rfl
      | io r => subst h3; cases es; rfl
      | un => subst h3; cases es
      | sh r => subst h3; cases es
    obtain ⟨rfl, _⟩ := key p hs'
    obtain ⟨b, o, k1, k2, k3, k4, k5, k6⟩ := a.own i s' p h2 hs'
    exact ⟨b, o, k1, (fun z => by cases z), fun _ => ⟨i, s', p, h2, hs', k1⟩, k4, k5, k6⟩
  dis := fun i j s t p q b e es e' es' z z' => by
    obtain ⟨h1, s1, h2, h3⟩ := lockE_get e (by intro z; subst z; cases es)
    obtain ⟨k1, s2, k2, k3⟩ := lockE_get e' (by intro z; subst z; cases es')
    rw [getElem?_wipe h1] at z
    rw [getElem?_wipe k1] at z'
    have key : ∀ {s' s : Sl} {p : PV}, s = s'.lock → s.own? = some p → s'.own? = some p := fun {s' s p} h3 es => by
      cases s' with
      | ow r => subst h3; cases es; rfl
      | io r => subst h3; cases es; rfl
      | un => subst h3; cases es
      | sh r => subst h3; cases es
    exact a.dis i j s1 s2 p q b h2 (key h3 es) k2 (key k3 es') z z'
/-- a turn's base is what stands at its start -/
theorem Abs.here (a : Abs K H₀ S₀ M S σ H ρ) (n : noOw ρ = true) : Abs K H S M S σ H ρ where
  len := a.len
  sub := a.sub
  base := Same.refl _
  grow := fun _ _ e => .inl e
  keep := fun _ _ e _ => e
  there := fun b o e => ⟨o, e⟩
  sh := a.sh
  own := fun i s p e es => by
    obtain ⟨b, o, k1, k2, k3, k4, k5, k6⟩ := a.own i s p e es
    refine ⟨b, o, k1, fun z => ?_, k3, k4, k5, k6⟩
    subst z
    exact absurd e (noOw_get n)
  dis := a.dis
theorem Abs.along {S' H' : Hp} {σ' : St} {ρ' : Env} (a : Abs K H₀ S₀ M S σ H ρ) (b : Abs K H S M S' σ' H' ρ') (n : noOw ρ' = true) : Abs K H₀ S₀ M S' σ' H' ρ' where
  len := b.len
  sub := b.sub
  base := a.base.trans b.base
  grow := fun c o e => by
    rcases b.grow c o e with h | h
    · exact a.grow c o h
    · exact .inr (a.none0 h)
  keep := fun c o e m => b.keep c o (a.keep c o e m) m
  there := fun c o e => by
    obtain ⟨o1, h1⟩ := a.there c o e
    exact b.there c o1 h1
  sh := b.sh
  own := fun i s p e es => by
    obtain ⟨c, o, k1, k2, k3, k4, k5, k6⟩ := b.own i s p e es
    refine ⟨c, o, k1, fun z => ?_, k3, k4, k5, k6⟩
    subst z
    exact absurd e (noOw_get n)
  dis := b.dis
theorem backE_get {own : List Nat} {ρ ρ' : Env} {i : Nat} {s : Sl} (e : (backE own ρ ρ')[i]? = some s) (n : s ≠ .un) :
    (i ∈ own ∧ ∃ p, s = .sh p ∧ ρ[i]? = some (.sh p)) ∨ (i ∉ own ∧ ∃ t t', ρ[i]? = some t ∧ ρ'[i]? = some t' ∧ s = Sl.back t t') := by
  unfold backE at e
  rw [List.getElem?_map] at e
  cases e1 : (List.range ρ.length)[i]? with
  | none => rw [e1] at e; cases e
  | some j =>
    rw [e1] at e
    have hi : i < ρ.length := by
      rcases Nat.lt_or_ge i ρ.length with h | h
      · exact h
      · rw [List.getElem?_eq_none (by simpa using h)] at e1; cases e1
    have hj : i = j := by
      rw [List.getElem?_range hi] at e1
      cases e1; rfl
    subst hj
    have er : ρ.getD i .un = ρ[i] := by simp [List.getD, hi]
    have ei : ρ[i]? = some ρ[i] := List.getElem?_eq_getElem hi
    by_cases hc : own.contains i = true
    · simp only [Option.map_some, hc, if_true, er, Option.some.injEq] at e
      refine .inl ⟨by simpa using hc, ?_⟩
      rw [ei]
      cases ex : ρ[i] with
      | sh p => rw [ex] at e; exact ⟨p, e.symm, rfl⟩
      | _ => rw [ex] at e; exact absurd e.symm n
    · simp only [Option.map_some, hc, Bool.false_eq_true, if_false, er, Option.some.injEq] at e
      refine .inr ⟨by simpa using hc, ?_⟩
      cases e2 : ρ'[i]? with
      | none =>
        have : ρ'.getD i .un = .un := by simp [List.getD, e2]
        rw [this] at e
        cases ex : ρ[i] <;> rw [ex] at e <;> exact absurd e.symm n
      | some t' =>
        have : ρ'.getD i .un = t' := by simp [List.getD, e2]
        rw [this] at e
        exact ⟨_, t', ei, rfl, e.symm⟩
/-- out of the block -/
theorem Abs.exit {own : List Nat} {S1 H1 : Hp} {ρ1 : Env} (a : Abs K H₀ S₀ M S σ H ρ) (b : Abs K H S (Lent σ ρ) S1 (wipe σ own) H1 ρ1) : Abs K H₀ S₀ M S1 σ H1 (backE own ρ ρ1) where
  len := by
    unfold backE
    rw [List.length_map, List.length_range]
    exact a.len
  sub := b.sub
  base := a.base.trans b.base
  grow := fun c o e => by
    rcases b.grow c o e with h | h
    · exact a.grow c o h
    · exact .inr (a.none0 h)
  keep := fun c o e m => by
    refine b.keep c o (a.keep c o e m) fun ⟨i, s, p, h1, h2, h3⟩ => ?_
    obtain ⟨c', o', k1, k2, k3, _⟩ := a.own i s p h1 h2
    rw [h3] at k1
    cases k1
    cases s with
    | ow q => cases h2; rw [k2 rfl] at e; cases e
    | io q => cases h2; exact m (k3 rfl)
    | un => cases h2
    | sh q => cases h2
  there := fun c o e => by
    obtain ⟨o1, h1⟩ := a.there c o e
    exact b.there c o1 h1
  sh := fun i p e => by
    rcases backE_get e (by intro z; cases z) with ⟨_, q, hq, h2⟩ | ⟨h1, t, t', h2, h3, h4⟩
    · cases hq
      obtain ⟨v, k1, k2⟩ := a.sh i _ h2
      exact ⟨v, k1, k2.up b.base⟩
    · have ht : t' = .sh p := by
        cases t <;> cases t' <;> simp [Sl.back] at h4 <;> first | (subst h4; rfl) | skip
      subst ht
      obtain ⟨v, k1, k2⟩ := b.sh i p h3
      rw [getElem?_wipe h1] at k1
      exact ⟨v, k1, k2⟩
  own := fun i s p e es => by
    rcases backE_get e (by intro z; subst z; cases es) with ⟨_, q, hq, h2⟩ | ⟨h1, t, t', h2, h3, h4⟩
    · subst hq; cases es
    · have ht : t' = .io p ∧ ((∃ q, t = .ow q ∧ s = .ow p) ∨ ∃ q, t = .io q ∧ s = .io p) := by
        cases t <;> cases t' <;> simp [Sl.back] at h4 <;> subst h4 <;> first | (cases es; done) | (cases es; exact ⟨rfl, .inl ⟨_, rfl, rfl⟩⟩) | (cases es; exact ⟨rfl, .inr ⟨_, rfl, rfl⟩⟩)
      obtain ⟨rfl, ht⟩ := ht
      obtain ⟨c, o, k1, k2, k3, k4, k5, k6⟩ := b.own i _ p h3 rfl
      rw [getElem?_wipe h1] at k1
      rcases ht with ⟨q, rfl, rfl⟩ | ⟨q, rfl, rfl⟩
      · obtain ⟨c', o', z1, z2, z3, _⟩ := a.own i _ q h2 rfl
        rw [k1] at z1
        cases z1
        exact ⟨c, o, k1, fun _ => z2 rfl, (fun z => by cases z), k4, k5, k6⟩
      · obtain ⟨c', o', z1, z2, z3, _⟩ := a.own i _ q h2 rfl
        rw [k1] at z1
        cases z1
        exact ⟨c, o, k1, (fun z => by cases z), fun _ => z3 rfl, k4, k5, k6⟩
  dis := fun i j s t p q c e es e' es' z z' => by
    have key : ∀ {i : Nat} {s : Sl} {p : PV}, (backE own ρ ρ1)[i]? = some s → s.own? = some p → i ∉ own ∧ ρ1[i]? = some (.io p) := fun {i s p} e es => by
      rcases backE_get e (by intro z; subst z; cases es) with ⟨_, q, hq, h2⟩ | ⟨h1, t, t', h2, h3, h4⟩
      · subst hq; cases es
      · have ht : t' = .io p := by
          cases t <;> cases t' <;> simp [Sl.back] at h4 <;> subst h4 <;> first | (cases es; done) | (cases es; rfl)
        subst ht
        exact ⟨h1, h3⟩
    obtain ⟨h1, h2⟩ := key e es
    obtain ⟨k1, k2⟩ := key e' es'
    exact b.dis i j _ _ _ _ c h2 rfl k2 rfl (by rw [getElem?_wipe h1]; exact z) (by rw [getElem?_wipe k1]; exact z')

theorem noOw_map : ∀ l : Env, noOw (l.map Sl.lock) = true
  | [] => rfl
  | s :: r => by cases s <;> simp [noOw, Sl.lock, Sl.isOw, noOw_map r]
theorem noOw_set : ∀ (l : Env) (i : Nat), noOw l = true → noOw (l.set i .un) = true
  | [], _, h => h
  | s :: r, 0, h => by
    simp [noOw] at h ⊢
    exact ⟨rfl, h.2⟩
  | s :: r, i + 1, h => by
    simp [noOw] at h ⊢
    exact ⟨h.1, noOw_set r i h.2⟩
theorem noOw_lockE : ∀ (own : List Nat) (ρ : Env), noOw (lockE own ρ) = true
  | [], ρ => noOw_map ρ
  | i :: is, ρ => noOw_set _ _ (noOw_lockE is ρ)
theorem noOw_wipeE : ∀ (own : List Nat) (ρ : Env), noOw ρ = true → noOw (wipeE own ρ) = true
  | [], _, h => h
  | i :: is, ρ, h => noOw_set _ _ (noOw_wipeE is ρ h)
theorem wipe_set : ∀ {own : List Nat} {i : Nat} {x : Option V} {σ : St}, i ∈ own → wipe (σ.set i x) own = wipe σ own
  | j :: js, i, x, σ, h => by
    show (wipe (σ.set i x) js).set j none = (wipe σ js).set j none
    by_cases hj : i ∈ js
    · rw [wipe_set hj]
    · have e : i = j := by
        rcases List.mem_cons.mp h with e | e
        · exact e
        · exact absurd e hj
      subst e
      apply List.ext_getElem?
      intro k
      by_cases hk : k = i
      · subst hk
        by_cases hl : k < σ.length
        · rw [List.getElem?_set_self (by rw [wipe_len, List.length_set]; exact hl), List.getElem?_set_self (by rw [wipe_len]; exact hl)]
        · rw [List.getElem?_eq_none (by rw [List.length_set, wipe_len, List.length_set]; omega), List.getElem?_eq_none (by rw [List.length_set, wipe_len]; omega)]
      · rw [List.getElem?_set_ne (Ne.symm hk), List.getElem?_set_ne (Ne.symm hk)]
        by_cases hkj : k ∈ js
        · have w0 : ∀ {l : List Nat} {τ : St}, k ∈ l → (wipe τ l)[k]? = (if k < τ.length then some none else none) := fun {l} => by
            induction l with
            | nil => intro τ h; cases h
            | cons a r ih =>
              intro τ h
              show ((wipe τ r).set a none)[k]? = _
              by_cases ha : a = k
              · subst ha
                by_cases hl : a < τ.length
                · rw [List.getElem?_set_self (by rw [wipe_len]; exact hl), if_pos hl]
                · rw [List.getElem?_eq_none (by rw [List.length_set, wipe_len]; omega), if_neg hl]
              · rw [List.getElem?_set_ne ha]
                rcases List.mem_cons.mp h with e | e
                · exact absurd e.symm ha
                · exact ih e
          rw [w0 hkj, w0 hkj, List.length_set]
        · rw [getElem?_wipe hkj, getElem?_wipe hkj, List.getElem?_set_ne (Ne.symm hk)]
theorem wipe_wipe : ∀ (own : List Nat) (σ : St), wipe (wipe σ own) own = wipe σ own := fun own σ => by
  have key : ∀ (l : List Nat) (τ : St), (∀ i ∈ l, i ∈ own) → wipe (wipe τ l) own = wipe τ own := fun l => by
    induction l with
    | nil => intro τ _; rfl
    | cons a r ih =>
      intro τ h
      show wipe ((wipe τ r).set a none) own = _
      rw [wipe_set (h a List.mem_cons_self)]
      exact ih τ fun i hi => h i (List.mem_cons_of_mem _ hi)
  exact key own σ fun _ h => h
/-- a target stores to these slots alone -/
def TgW (own : List Nat) (g : TG) : Prop := ∀ (v : V) (τ : St) (H : Hp) (Q : St → Hp → Prop), g v τ H Q → g v τ H fun σ2 H2 => wipe σ2 own = wipe τ own ∧ Q σ2 H2
def TgsW (own : List Nat) (g : TGs) : Prop := ∀ (v : List V) (τ : St) (H : Hp) (Q : St → Hp → Prop), g v τ H Q → g v τ H fun σ2 H2 => wipe σ2 own = wipe τ own ∧ Q σ2 H2
/-- a target's wish may be weakened -/
theorem tw_name {own : List Nat} {i : Nat} (h : i ∈ own) : TgW own (L2.gName i) := fun v τ H Q q => ⟨wipe_set h, q⟩
theorem tws_nil {own : List Nat} : TgsW own L2.gNil := fun v τ H Q q => ⟨q.1, rfl, q.2⟩
theorem tws_name {own : List Nat} {i : Nat} {gs : TGs} (h : i ∈ own) (hs : TgsW own gs) : TgsW own (L2.gCons (L2.gName i) gs) := fun v τ H Q q => by
  obtain ⟨x, r, e, q⟩ := q
  refine ⟨x, r, e, ?_⟩
  have q : gs r (τ.set i (some x)) H Q := q
  have z := hs r _ H Q q
  rw [wipe_set h] at z
  exact z
theorem tw_tup {own : List Nat} {n : Nat} {gs : TGs} (h : TgsW own gs) : TgW own (L2.gTup K n gs) := fun v τ H Q q => by
  obtain ⟨a, xs, e, h1, h2, q⟩ := q
  exact ⟨a, xs, e, h1, h2, h _ _ _ _ q⟩
def GMono (g : TG) : Prop := ∀ (v : V) (τ : St) (H : Hp) (Q Q' : St → Hp → Prop), (∀ σ H, Q σ H → Q' σ H) → g v τ H Q → g v τ H Q'
def GsMono (g : TGs) : Prop := ∀ (v : List V) (τ : St) (H : Hp) (Q Q' : St → Hp → Prop), (∀ σ H, Q σ H → Q' σ H) → g v τ H Q → g v τ H Q'
theorem gm_name {i : Nat} : GMono (L2.gName i) := fun v τ H Q Q' h q => h _ _ q
theorem gms_nil : GsMono L2.gNil := fun v τ H Q Q' h q => ⟨q.1, h _ _ q.2⟩
theorem gms_cons {g : TG} {gs : TGs} (h1 : GMono g) (h2 : GsMono gs) : GsMono (L2.gCons g gs) := fun v τ H Q Q' h q => by
  obtain ⟨x, r, e, q⟩ := q
  exact ⟨x, r, e, h1 _ _ _ _ _ (fun σ H z => h2 _ _ _ _ _ h z) q⟩
theorem gm_tup {n : Nat} {gs : TGs} (h : GsMono gs) : GMono (L2.gTup K n gs) := fun v τ H Q Q' h' q => by
  obtain ⟨a, xs, e, h1, h2, q⟩ := q
  exact ⟨a, xs, e, h1, h2, h _ _ _ _ _ h' q⟩
/-- an object that no slot owns changes -/
theorem Abs.other {D : Addr} {o : HO} (a : Abs K H₀ S₀ M S σ H ρ) (h0 : H₀ D = none) (hS : S D = none) (hn : ∀ (i : Nat) s p, ρ[i]? = some s → s.own? = some p → σ[i]? ≠ some (some (.ref D))) : Abs K H₀ S₀ M S σ (upd H D o) ρ where
  len := a.len
  sub := fun b x e => by
    rw [upd_ne (fun z => by rw [z, hS] at e; cases e)]
    exact a.sub _ _ e
  base := a.base
  grow := a.grow
  keep := fun b x e m => by
    rw [upd_ne (fun z => by rw [z, h0] at e; cases e)]
    exact a.keep _ _ e m
  there := fun b x e => by
    rw [upd_ne (fun z => by rw [z, h0] at e; cases e)]
    exact a.there _ _ e
  sh := a.sh
  own := fun i s p e es => by
    obtain ⟨c, o', k1, k2, k3, k4, k5, k6⟩ := a.own i s p e es
    refine ⟨c, o', k1, k2, k3, k4, ?_, k6⟩
    rw [upd_ne, k5]
    intro z
    subst z
    exact hn i s p e es k1
  dis := a.dis
/-- a comprehension: in its block nothing is raised -/
theorem fo_lc {wi : TI} {di : DenL} {g : TG} {dg : DenG} {tt : TT} {dt : DenB} {te : TE} {de : Den} {own : List Nat} (hi : IOk K mg W wi di) (hg : GOk K g dg) (hgw : TgW own g) (hgm : GMono g) (ht : TOk K mg (fun _ _ _ _ => False) tt dt) (he : EOk K mg (fun _ _ _ _ => False) te de) :
    FOk K mg W (tLc wi g tt te own) (dLc own di dg dt de) := fun H₀ S₀ M S σ H ρ Q ab hp =>
  hi.bind (Rl' := rF K) ab hp fun xs ρ1 J S1 H1 _ a1 _ rj hp => by
    intro D hD
    cases eL : lcLoop own dg dt de xs (lockE own ρ1) with
    | none => simp only [eL] at hp; exact hp.elim
    | some yr =>
      obtain ⟨ys, ρ2⟩ := yr
      simp only [eL] at hp
      by_cases hlen : ys.length ≤ 1000000
      · rw [if_pos hlen] at hp
        have hsz : (1000000 : Nat) < sizeLine := by rw [sizeLine_eq]; decide
        have nL : ¬ Lent σ ρ1 D := fun ⟨i, s, p, h1, h2, h3⟩ => by
          obtain ⟨c, o, k1, _, _, _, k5, _⟩ := a1.own i s p h1 h2
          rw [h3] at k1
          cases k1
          rw [hD] at k5; cases k5
        have nOwn : ∀ {S' : Hp} {σ' : St} {H' : Hp} {ρ' : Env}, Abs K H1 S1 (Lent σ ρ1) S' σ' H' ρ' → ∀ (i : Nat) s p, ρ'[i]? = some s → s.own? = some p → noOw ρ' = true → σ'[i]? ≠ some (some (.ref D)) := fun {S' σ' H' ρ'} a i s p e es no z => by
          obtain ⟨c, o, k1, k2, k3, _⟩ := a.own i s p e es
          rw [z] at k1
          cases k1
          cases s with
          | io q => cases es; exact nL (k3 rfl)
          | ow q => exact noOw_get no e
          | un => cases es
          | sh q => cases es
        refine ⟨fun i m H => m = xs.length - i ∧ i ≤ xs.length ∧ ∃ S ρ acc ps zs, Abs K H1 S1 (Lent σ ρ1) S (wipe σ own) H ρ ∧ noOw ρ = true ∧ H D = some (.lst acc) ∧ S D = none ∧ RepL K S ps acc ∧ lcLoop own dg dt de (xs.drop i) ρ = some (zs, ρ2) ∧ ys = ps ++ zs,
          ⟨xs.length, by simp, Nat.zero_le _, S1, lockE own ρ1, [], [], ys, (a1.enter own).step (Step.hid a1.sub hD), noOw_lockE _ _, upd_same, Same.free a1.sub hD, .nil, by rw [List.drop_zero]; exact eL, rfl⟩, ?_⟩
        rintro i m H' ⟨rfl, hle, S', ρ', acc, ps, zs, a', no', hD', sD', rp, eL', eys⟩
        obtain ⟨js, jg⟩ := rj i S' H' a'.base a'.sub
        by_cases hlt : i < xs.length
        · have ex : xs[i]? = some xs[i] := List.getElem?_eq_getElem hlt
          obtain ⟨j1, j2⟩ := jg _ ex
          rw [List.drop_eq_getElem_cons hlt] at eL'
          unfold lcLoop at eL'
          cases e1 : dg xs[i] ρ' with
          | none => simp only [e1] at eL'; cases eL'
          | some ρa =>
            simp only [e1] at eL'
            refine .inr ⟨j1, fun H => i + 1 ≤ xs.length ∧ ∃ S ρ acc ps zs, Abs K H1 S1 (Lent σ ρ1) S (wipe σ own) H ρ ∧ noOw ρ = true ∧ H D = some (.lst acc) ∧ S D = none ∧ RepL K S ps acc ∧ lcLoop own dg dt de (xs.drop (i + 1)) ρ = some (zs, ρ2) ∧ ys = ps ++ zs,
              fun H2 hN => ⟨xs.length - (i + 1), by omega, rfl, hN.1, hN.2⟩, fun x H2 y => ?_⟩
            obtain ⟨S2, st, rx⟩ := j2 x H2 y
            have aS := a'.step st
            have aT : Abs K H2 S2 (Lent σ ρ1) S2 (wipe σ own) H2 ρ' := aS.here no'
            have D2 : H2 D = some (.lst acc) := st.h _ _ hD'
            have sD2 : S2 D = none := by
              cases q : S2 D with
              | none => rfl
              | some o =>
                rcases st.new D o q with z | z
                · rw [sD'] at z; cases z
                · rw [hD'] at z; cases z
            have hg1 := hg H2 S2 (Lent σ ρ1) S2 (wipe σ own) H2 ρ' ρa xs[i] x (fun σ2 H2' => H2' = H2 ∧ Abs K H2 S2 (Lent σ ρ1) S2 σ2 H2 ρa) aT rx e1 fun σ2 a2 => ⟨rfl, a2⟩
            have hg2 := hgw x (wipe σ own) H2 _ hg1
            have body : ∀ σ2 H2', (wipe σ2 own = wipe (wipe σ own) own ∧ H2' = H2 ∧ Abs K H2 S2 (Lent σ ρ1) S2 σ2 H2 ρa) → (wipe σ2 own = wipe σ own ∧ tt σ2 H2' fun b H3 =>
                if b = true then te σ2 H3 fun y H4 => ∃ acc, H4 D = some (.lst acc) ∧ acc.length < sizeLine ∧ (fun H => i + 1 ≤ xs.length ∧ ∃ S ρ acc ps zs, Abs K H1 S1 (Lent σ ρ1) S (wipe σ own) H ρ ∧ noOw ρ = true ∧ H D = some (.lst acc) ∧ S D = none ∧ RepL K S ps acc ∧ lcLoop own dg dt de (xs.drop (i + 1)) ρ = some (zs, ρ2) ∧ ys = ps ++ zs) (upd H4 D (.lst (acc ++ [y])))
                else (fun H => i + 1 ≤ xs.length ∧ ∃ S ρ acc ps zs, Abs K H1 S1 (Lent σ ρ1) S (wipe σ own) H ρ ∧ noOw ρ = true ∧ H D = some (.lst acc) ∧ S D = none ∧ RepL K S ps acc ∧ lcLoop own dg dt de (xs.drop (i + 1)) ρ = some (zs, ρ2) ∧ ys = ps ++ zs) H3) := by
              rintro σ2 H2' ⟨hw, rfl, a2⟩
              rw [wipe_wipe] at hw
              refine ⟨hw, ?_⟩
              -- back to the wiped slots
              have bk : ∀ {S3 H3 : Hp} {ρ3 : Env}, Abs K H2' S2 (Lent σ ρ1) S3 σ2 H3 ρ3 → noOw ρ3 = true → Abs K H1 S1 (Lent σ ρ1) S3 (wipe σ own) H3 (wipeE own ρ3) := fun {S3 H3 ρ3} a3 no3 => by
                refine (aS.along a3 no3).forget ?_ fun j s e n => ?_
                · rw [wipeE_length, a3.len, ← wipe_len σ2 own, hw]
                · obtain ⟨h1, h2⟩ := wipeE_get e n
                  refine ⟨h2, ?_⟩
                  rw [← hw, getElem?_wipe h1]
              have kD : ∀ {S3 H3 : Hp} {ρ3 : Env}, Abs K H2' S2 (Lent σ ρ1) S3 σ2 H3 ρ3 → H3 D = some (.lst acc) ∧ S3 D = none := fun {S3 H3 ρ3} a3 => by
                refine ⟨a3.keep D _ D2 nL, ?_⟩
                cases q : S3 D with
                | none => rfl
                | some o =>
                  rcases a3.grow D o q with z | z
                  · rw [sD2] at z; cases z
                  · rw [D2] at z; cases z
              refine ht H2' S2 (Lent σ ρ1) S2 σ2 H2' ρa _ a2 ?_
              cases e2 : dt ρa with
              | bad => simp only [e2] at eL'; cases eL'
              | exc x ρb => simp only [e2] at eL'; cases eL'
              | ok b ρb =>
                intro b' S3 H3 a3 rb
                cases rb
                simp only [e2] at eL'
                cases b with
                | false =>
                  simp only [Bool.false_eq_true, if_false]
                  by_cases no3 : noOw ρb = true
                  · simp only [if_pos no3] at eL'
                    obtain ⟨d1, d2⟩ := kD a3
                    exact ⟨hlt, S3, wipeE own ρb, acc, ps, zs, bk a3 no3, noOw_wipeE _ _ no3, d1, d2, rp.up (st.s.trans a3.base), eL', eys⟩
                  · simp only [if_neg no3] at eL'; cases eL'
                | true =>
                  simp only [if_true]
                  have a3' : Abs K H2' S3 (Lent σ ρ1) S3 σ2 H3 ρb := a3.rebase
                  refine he H2' S3 (Lent σ ρ1) S3 σ2 H3 ρb _ a3' ?_
                  cases e3 : de ρb with
                  | bad => simp only [e3] at eL'; cases eL'
                  | exc x ρc => simp only [e3] at eL'; cases eL'
                  | ok y ρc =>
                    intro z S4 H4 a4' rz
                    have a4 := a3.unbase a4'
                    simp only [e3] at eL'
                    by_cases no4 : noOw ρc = true
                    · simp only [if_pos no4] at eL'
                      cases e5 : lcLoop own dg dt de (xs.drop (i + 1)) (wipeE own ρc) with
                      | none => simp only [e5] at eL'; cases eL'
                      | some yr =>
                        obtain ⟨ys', ρ4⟩ := yr
                        simp only [e5] at eL'
                        cases eL'
                        obtain ⟨d1, d2⟩ := kD a4
                        have hl : acc.length < 1000000 := by
                          have z1 := rp.length
                          have z2 := congrArg List.length eys
                          rw [List.length_append, List.length_cons] at z2
                          omega
                        refine ⟨acc, d1, by omega, hlt, S4, wipeE own ρc, acc ++ [z], ps ++ [y], ys', (bk a4 no4).other hD d2 fun j s p e es => nOwn (bk a4 no4) j s p e es (noOw_wipeE _ _ no4), noOw_wipeE _ _ no4, upd_same, d2,
                          (rp.up (st.s.trans a4.base)).append (.cons rz .nil), e5, by rw [eys, List.append_assoc]; rfl⟩
                    · simp only [if_neg no4] at eL'; cases eL'
            exact hgm x (wipe σ own) H2 _ _ body hg2
        · have ei : i = xs.length := by omega
          subst ei
          rw [List.drop_length] at eL'
          unfold lcLoop at eL'
          cases eL'
          rw [List.append_nil] at eys
          subst eys
          refine .inl ⟨js (Nat.le_refl _), hp (.ref D) S' H' (a1.exit a') ⟨D, .lst acc, rfl, a1.none0 hD, sD', hD', rp, fun j s q ej es z => ?_⟩⟩
          have a2 := a1.exit a'
          obtain ⟨c, o, k1, k2, k3, k4, k5, k6⟩ := a2.own j s q ej es
          rcases backE_get ej (by intro w; subst w; cases es) with ⟨_, q', hq, _⟩ | ⟨h1, t, t', h2, h3, h4⟩
          · subst hq; cases es
          · have ht : ∃ p, t'.own? = some p := by
              cases t <;> cases t' <;> simp [Sl.back] at h4 <;> subst h4 <;> first | (cases es; done) | exact ⟨_, rfl⟩
            obtain ⟨p, hp'⟩ := ht
            exact nOwn a' j t' p h3 hp' no' (by rw [getElem?_wipe h1]; exact z)
      · rw [if_neg hlen] at hp
        exact hp.elim
end
end PL

set_option Elab.async false
set_option linter.all false
set_option maxRecDepth 100000
set_option maxHeartbeats 4000000
namespace PL
open PySem PySem.Spec L2
set_option autoImplicit false

/-! ### defs: what they are promised to be -/
inductive FR where
  | bad | exc (x : Exn) | ok (p : PV) (q : PV)
/-- the parameters' slots at the entry; io: the first one is an object that the def may change -/
def argSl (io : Bool) (ps : List PV) : Env := match io, ps with
  | true, p :: r => .io p :: r.map .sh
  | _, ps => ps.map .sh
def ioSet (io : Bool) (ps : List PV) (q : PV) : List PV := if io = true then ps.set 0 q else ps
def spD (K : PySem.W.Frag) (mg : Str → Option Value) (io fr : Bool) (n : Nat) (F : List PV → FR) : Sp := fun vs H Q E => vs.length = n ∧ ∃ (S : Hp) (M : Addr → Prop) (ps : List PV),
  (∀ a b, M a → M b → a = b) ∧ Abs K H S M S (vs.map some) H (argSl io ps) ∧ (io = true → ps ≠ []) ∧
  match F ps with
  | .bad => False
  | .exc x => ∀ cls d S' H', Abs K H S M S' [] H' [] → ExcRep K mg S' H' x cls d → E cls d H'
  | .ok p q => ∀ v S' H', Abs K H S M S' (vs.map some) H' (argSl io (ioSet io ps q)) → RetRep fr K H S' H' [] [] p v → Q v H'
def io0 : Env → Option PV
  | .io q :: _ => some q
  | _ => none
theorem io0_get {ρ : Env} {q : PV} (h : io0 ρ = some q) : ρ[0]? = some (.io q) := by
  unfold io0 at h
  split at h
  · cases h; rfl
  · cases h
def fin0 (io : Bool) (p : PV) (ρ : Env) : FR := if io = true then (match io0 ρ with
  | some q => .ok p q
  | none => .bad) else .ok p .non
def runD (io fr : Bool) (n len : Nat) (d : DenS) (ps : List PV) : FR :=
  if ps.length = n then
    match d (argSl io ps ++ List.replicate (len - n) .un) with
    | .rt p ρ => fin0 io p ρ
    | .nx ρ => if fr = true then .bad else fin0 io .non ρ
    | .exc x _ => .exc x
    | _ => .bad
  else .bad
theorem argSl_length (io : Bool) (ps : List PV) : (argSl io ps).length = ps.length := by
  unfold argSl
  split <;> simp
theorem argSl_get {io : Bool} {ps : List PV} {i : Nat} {s : Sl} (e : (argSl io ps)[i]? = some s) : ∃ p, ps[i]? = some p ∧ ((s = .sh p ∧ (io = true → i ≠ 0)) ∨ (s = .io p ∧ io = true ∧ i = 0)) := by
  unfold argSl at e
  split at e
  · rename_i p r
    cases i with
    | zero =>
      simp at e
      exact ⟨p, rfl, .inr ⟨e.symm, rfl, rfl⟩⟩
    | succ j =>
      simp at e
      obtain ⟨q, h1, h2⟩ := e
      exact ⟨q, by simpa using h1, .inl ⟨h2.symm, fun _ => by simp⟩⟩
  · rename_i hio
    rw [List.getElem?_map] at e
    cases h : ps[i]? with
    | none => rw [h] at e; cases e
    | some p =>
      rw [h] at e
      cases e
      refine ⟨p, rfl, .inl ⟨rfl, fun z => ?_⟩⟩
      subst z
      cases ps with
      | nil => simp at h
      | cons a r => exact (hio a r rfl rfl).elim
section
variable {K : PySem.W.Frag} {mg : Str → Option Value} {W : WX} {fr : Bool} {H₀ S₀ : Hp} {M : Addr → Prop} {S H : Hp} {σ : St} {ρ : Env}
/-- nothing is known of the slots -/
theorem Abs.bare (a : Abs K H₀ S₀ M S σ H ρ) : Abs K H₀ S₀ M S [] H [] := a.forget rfl fun i s e => by simp at e
/-- what a call without a lent object did -/
theorem Abs.toStep {S' H' : Hp} {σ' : St} {ρ' : Env} {M : Addr → Prop} (a : Abs K H S M S' σ' H' ρ') (h : ∀ b, ¬ M b) : Step S H S' H' :=
  ⟨a.base, fun b o e => a.keep b o e (h b), a.sub, a.grow⟩
def dCall (F : List PV → FR) (da : DenL) : Den := fun ρ => (da ρ).bind fun ps ρ1 => match F ps with
  | .bad => .bad
  | .exc x => .exc x ρ1
  | .ok p _ => .ok p ρ1
theorem call_pre {n : Nat} {F : List PV → FR} {fr' : Bool} {vs : List V} {ps : List PV} {Q : VK} {E : XK} (a : Abs K H₀ S₀ M S σ H ρ) (r : RepL K S ps vs) (hl : ps.length = n)
    (h : match F ps with
      | .bad => False
      | .exc x => ∀ cls d S' H', Step S H S' H' → ExcRep K mg S' H' x cls d → E cls d H'
      | .ok p q => ∀ v S' H', Step S H S' H' → RetRep fr' K H S' H' [] [] p v → Q v H') : spD K mg false fr' n F vs H Q E := by
  refine ⟨by rw [← r.length, hl], S, fun _ => False, ps, fun _ _ z => z.elim, ⟨?_, a.sub, Same.refl _, fun _ _ e => .inl e, fun _ _ e _ => e, fun b o e => ⟨o, e⟩, fun i p e => ?_, fun i s p e es => ?_, fun i j s t p q c e es => ?_⟩, (fun z => by cases z), ?_⟩
  · rw [argSl_length, List.length_map, r.length]
  · obtain ⟨p', h1, h2⟩ := argSl_get e
    rcases h2 with ⟨h2, _⟩ | ⟨_, z, _⟩
    · cases h2
      obtain ⟨v, h3, h4⟩ := r.get h1
      exact ⟨v, by rw [List.getElem?_map, h3]; rfl, h4⟩
    · cases z
  · obtain ⟨p', h1, h2⟩ := argSl_get e
    rcases h2 with ⟨h2, _⟩ | ⟨_, z, _⟩
    · subst h2; cases es
    · cases z
  · obtain ⟨p', h1, h2⟩ := argSl_get e
    rcases h2 with ⟨h2, _⟩ | ⟨_, z, _⟩
    · subst h2; cases es
    · cases z
  · cases e : F ps with
    | bad => simp only [e] at h
    | exc x => simp only [e] at h; exact fun cls d S' H' a' => h cls d S' H' (a'.toStep fun _ z => z)
    | ok p q => simp only [e] at h; exact fun v S' H' a' => h v S' H' (a'.toStep fun _ z => z)
theorem eo_call {n : Nat} {F : List PV → FR} {ta : TA} {da : DenL} (ha : AOk K mg W ta da) (hn : ∀ ps, F ps ≠ .bad → ps.length = n) : EOk K mg W (tCallS (spD K mg false false n F) (WE W) ta) (dCall F da) := fun H₀ S₀ M S σ H ρ Q ab hp =>
  ha.bind (Rl' := rV K) ab hp fun ps ρ1 vs S1 H1 _ a1 _ r hp => by
    cases e : F ps with
    | bad => simp only [e] at hp; exact hp.elim
    | exc x =>
      simp only [e] at hp
      refine call_pre a1 r (hn ps (by rw [e]; intro z; cases z)) ?_
      simp only [e]
      exact fun cls d S' H' st re => hp cls d S' H' (a1.step st) re
    | ok p q =>
      simp only [e] at hp
      refine call_pre a1 r (hn ps (by rw [e]; intro z; cases z)) ?_
      simp only [e]
      exact fun v S' H' st rv => hp v S' H' (a1.step st) rv
theorem fresh_call {S' H' : Hp} {p : PV} {v : V} (a : Abs K H₀ S₀ M S σ H ρ) (f : Fr K H S' H' [] [] p v) : Fr K H₀ S' H' σ ρ p v := by
  obtain ⟨c, o, e, h1, h2, h3, h4, _⟩ := f
  refine ⟨c, o, e, a.none0 h1, h2, h3, h4, fun j s q ej es z => ?_⟩
  obtain ⟨c', o', k1, _, _, _, k5, _⟩ := a.own j s q ej es
  rw [z] at k1
  cases k1
  rw [h1] at k5; cases k5
theorem fo_call {n : Nat} {F : List PV → FR} {ta : TA} {da : DenL} (ha : AOk K mg W ta da) (hn : ∀ ps, F ps ≠ .bad → ps.length = n) : FOk K mg W (tCallS (spD K mg false true n F) (WE W) ta) (dCall F da) := fun H₀ S₀ M S σ H ρ Q ab hp =>
  ha.bind (Rl' := rF K) ab hp fun ps ρ1 vs S1 H1 _ a1 _ r hp => by
    cases e : F ps with
    | bad => simp only [e] at hp; exact hp.elim
    | exc x =>
      simp only [e] at hp
      refine call_pre a1 r (hn ps (by rw [e]; intro z; cases z)) ?_
      simp only [e]
      exact fun cls d S' H' st re => hp cls d S' H' (a1.step st) re
    | ok p q =>
      simp only [e] at hp
      refine call_pre a1 r (hn ps (by rw [e]; intro z; cases z)) ?_
      simp only [e]
      exact fun v S' H' st rv => hp v S' H' (a1.step st) (fresh_call a1 rv)

/-! ### a call that lends the first argument, an owned object in a slot -/
def dCallIo (F : List PV → FR) (i : Nat) (da : DenL) : Den := fun ρ => match ownAt ρ i with
  | none => .bad
  | some _ => (da ρ).bind fun ps ρ1 => match ownAt ρ1 i with
    | none => .bad
    | some (s, p) => match F (p :: ps) with
      | .bad => .bad
      | .exc x => .exc x (ρ1.set i .un)
      | .ok z q => .ok z (ρ1.set i (s.with q))
/-- behind a call that was lent the object at b -/
theorem Abs.lentBack {i : Nat} {s : Sl} {p q : PV} {b : Addr} {S' H' : Hp} {o' : HO} (a : Abs K H₀ S₀ M S σ H ρ) (e : ρ[i]? = some s) (es : s.own? = some p) (hb : σ[i]? = some (some (.ref b)))
    (st : Same S S' ∧ Same S' H' ∧ (∀ c o, S' c = some o → S c = some o ∨ H c = none) ∧ (∀ c o, H c = some o → c ≠ b → H' c = some o) ∧ ∀ c o, H c = some o → ∃ o', H' c = some o') (hS : S' b = none) (hH : H' b = some o') (w : OwnO K S' q o') :
    Abs K H₀ S₀ M S' σ H' (ρ.set i (s.with q)) := by
  obtain ⟨s1, s2, s3, s4, s5⟩ := st
  obtain ⟨b', ob, h1, h2, h3, h4, h5, h6⟩ := a.own i s p e es
  rw [hb] at h1
  cases h1
  have hi : i < ρ.length := (List.getElem?_eq_some_iff.mp e).1
  have hw : (s.with q).own? = some q := by
    cases s with
    | ow r => rfl
    | io r => rfl
    | un => cases es
    | sh r => cases es
  have nb : ∀ c o, H₀ c = some o → ¬ M c → c ≠ b := fun c o e0 m z => by
    subst z
    cases s with
    | ow r => cases es; rw [h2 rfl] at e0; cases e0
    | io r => cases es; exact m (h3 rfl)
    | un => cases es
    | sh r => cases es
  refine ⟨by rw [List.length_set]; exact a.len, s2, a.base.trans s1, fun c o z => ?_, fun c o z m => s4 c o (a.keep c o z m) (nb c o z m), fun c o z => ?_, fun j r ej => ?_, fun j t r ej et => ?_, fun j k t u r r' c ej et ek eu z z' => ?_⟩
  · rcases s3 c o z with z | z
    · exact a.grow c o z
    · exact .inr (a.none0 z)
  · obtain ⟨o1, h⟩ := a.there c o z
    exact s5 c o1 h
  · by_cases hj : j = i
    · subst hj
      rw [List.getElem?_set_self hi] at ej
      have z := Option.some.inj ej
      rw [z] at hw; cases hw
    · rw [List.getElem?_set_ne (Ne.symm hj)] at ej
      obtain ⟨v, k1, k2⟩ := a.sh j r ej
      exact ⟨v, k1, k2.up s1⟩
  · by_cases hj : j = i
    · subst hj
      rw [List.getElem?_set_self hi] at ej
      have z := Option.some.inj ej
      subst z
      rw [hw] at et
      cases et
      refine ⟨b, o', hb, fun z => ?_, fun z => ?_, hS, hH, w⟩
      · cases s with
        | ow r => cases es; exact h2 rfl
        | io r => cases z
        | un => cases es
        | sh r => cases es
      · cases s with
        | io r => cases es; exact h3 rfl
        | ow r => cases z
        | un => cases es
        | sh r => cases es
    · rw [List.getElem?_set_ne (Ne.symm hj)] at ej
      obtain ⟨c, o2, z1, z2, z3, z4, z5, z6⟩ := a.own j t r ej et
      have hc : c ≠ b := fun z => by
        subst z
        exact hj (a.dis j i _ _ _ _ c ej et e es z1 hb)
      refine ⟨c, o2, z1, z2, z3, ?_, s4 c o2 z5 hc, z6.up s1⟩
      cases q' : S' c with
      | none => rfl
      | some o3 =>
        rcases s3 c o3 q' with z | z
        · rw [z4] at z; cases z
        · rw [z5] at z; cases z
  · have key : ∀ {j : Nat} {t : Sl} {r : PV}, (ρ.set i (s.with q))[j]? = some t → t.own? = some r → ∃ t' r', ρ[j]? = some t' ∧ t'.own? = some r' := fun {j t r} ej et => by
      by_cases hj : j = i
      · subst hj; exact ⟨s, p, e, es⟩
      · rw [List.getElem?_set_ne (Ne.symm hj)] at ej; exact ⟨t, r, ej, et⟩
    obtain ⟨t1, r1, e1, e2⟩ := key ej et
    obtain ⟨t2, r2, e3, e4⟩ := key ek eu
    exact a.dis j k _ _ _ _ c e1 e2 e3 e4 z z'
theorem Abs.lentGone {i : Nat} {s : Sl} {p : PV} {b : Addr} {S' H' : Hp} (a : Abs K H₀ S₀ M S σ H ρ) (e : ρ[i]? = some s) (es : s.own? = some p) (hb : σ[i]? = some (some (.ref b)))
    (st : Same S S' ∧ Same S' H' ∧ (∀ c o, S' c = some o → S c = some o ∨ H c = none) ∧ (∀ c o, H c = some o → c ≠ b → H' c = some o) ∧ ∀ c o, H c = some o → ∃ o', H' c = some o') :
    Abs K H₀ S₀ M S' σ H' (ρ.set i .un) := by
  obtain ⟨s1, s2, s3, s4, s5⟩ := st
  obtain ⟨b', ob, h1, h2, h3, h4, h5, h6⟩ := a.own i s p e es
  rw [hb] at h1
  cases h1
  have hi : i < ρ.length := (List.getElem?_eq_some_iff.mp e).1
  have nb : ∀ c o, H₀ c = some o → ¬ M c → c ≠ b := fun c o e0 m z => by
    subst z
    cases s with
    | ow r => cases es; rw [h2 rfl] at e0; cases e0
    | io r => cases es; exact m (h3 rfl)
    | un => cases es
    | sh r => cases es
  have ne : ∀ {j : Nat} {s : Sl}, (ρ.set i .un)[j]? = some s → s ≠ .un → j ≠ i ∧ ρ[j]? = some s := fun {j s} ej hs => by
    by_cases hj : j = i
    · subst hj
      rw [List.getElem?_set_self hi] at ej
      cases ej
      exact absurd rfl hs
    · rw [List.getElem?_set_ne (Ne.symm hj)] at ej
      exact ⟨hj, ej⟩
  have nu : ∀ {s : Sl} {q : PV}, s.own? = some q → s ≠ .un := fun {s q} h z => by subst z; cases h
  refine ⟨by rw [List.length_set]; exact a.len, s2, a.base.trans s1, fun c o z => ?_, fun c o z m => s4 c o (a.keep c o z m) (nb c o z m), fun c o z => ?_, fun j r ej => ?_, fun j t r ej et => ?_, fun j k t u r r' c ej et ek eu z z' => ?_⟩
  · rcases s3 c o z with z | z
    · exact a.grow c o z
    · exact .inr (a.none0 z)
  · obtain ⟨o1, h⟩ := a.there c o z
    exact s5 c o1 h
  · obtain ⟨v, k1, k2⟩ := a.sh j r (ne ej (by intro z; cases z)).2
    exact ⟨v, k1, k2.up s1⟩
  · obtain ⟨hj, ej⟩ := ne ej (nu et)
    obtain ⟨c, o2, z1, z2, z3, z4, z5, z6⟩ := a.own j t r ej et
    have hc : c ≠ b := fun z => by
      subst z
      exact hj (a.dis j i _ _ _ _ c ej et e es z1 hb)
    refine ⟨c, o2, z1, z2, z3, ?_, s4 c o2 z5 hc, z6.up s1⟩
    cases q' : S' c with
    | none => rfl
    | some o3 =>
      rcases s3 c o3 q' with z | z
      · rw [z4] at z; cases z
      · rw [z5] at z; cases z
  · exact a.dis j k t u r r' c (ne ej (nu et)).2 et (ne ek (nu eu)).2 eu z z'
theorem callIo_pre {n : Nat} {F : List PV → FR} {fr' : Bool} {i : Nat} {s : Sl} {p : PV} {b : Addr} {vs : List V} {ps : List PV} {Q : VK} {E : XK} (a : Abs K H₀ S₀ M S σ H ρ) (e : ρ[i]? = some s) (es : s.own? = some p) (hb : σ[i]? = some (some (.ref b))) (r : RepL K S ps vs) (hl : ps.length + 1 = n)
    (h : match F (p :: ps) with
      | .bad => False
      | .exc x => ∀ cls d S' H', Abs K H₀ S₀ M S' σ H' (ρ.set i .un) → ExcRep K mg S' H' x cls d → E cls d H'
      | .ok z q => ∀ v S' H', Abs K H₀ S₀ M S' σ H' (ρ.set i (s.with q)) → RetRep fr' K H₀ S' H' σ (ρ.set i (s.with q)) z v → Q v H') : spD K mg true fr' n F (.ref b :: vs) H Q E := by
  obtain ⟨b', ob, h1, h2, h3, h4, h5, h6⟩ := a.own i s p e es
  rw [hb] at h1
  cases h1
  refine ⟨by rw [List.length_cons, ← r.length]; exact hl, S, fun c => c = b, p :: ps, fun _ _ z z' => z.trans z'.symm, ⟨?_, a.sub, Same.refl _, fun _ _ e => .inl e, fun _ _ e _ => e, fun b o e => ⟨o, e⟩, fun j q ej => ?_, fun j t q ej et => ?_, fun j k t u q q' c ej et ek eu _ _ => ?_⟩, (fun _ z => by cases z), ?_⟩
  · rw [argSl_length, List.length_map, List.length_cons, List.length_cons, r.length]
  · obtain ⟨p', k1, k2⟩ := argSl_get ej
    rcases k2 with ⟨k2, k3⟩ | ⟨k2, _, _⟩
    · cases k2
      cases j with
      | zero => exact absurd rfl (k3 rfl)
      | succ j =>
        obtain ⟨v, h3, h4⟩ := r.get (i := j) (by simpa using k1)
        exact ⟨v, by rw [List.getElem?_map, List.getElem?_cons_succ, h3]; rfl, h4⟩
    · cases k2
  · obtain ⟨p', k1, k2⟩ := argSl_get ej
    rcases k2 with ⟨k2, _⟩ | ⟨k2, _, k3⟩
    · subst k2; cases et
    · subst k2; subst k3
      cases et
      cases k1
      exact ⟨b, ob, rfl, (fun z => by cases z), fun _ => rfl, h4, h5, h6⟩
  · obtain ⟨_, _, k2⟩ := argSl_get ej
    obtain ⟨_, _, k4⟩ := argSl_get ek
    rcases k2 with ⟨k2, _⟩ | ⟨_, _, k3⟩
    · subst k2; cases et
    · rcases k4 with ⟨k4, _⟩ | ⟨_, _, k5⟩
      · subst k4; cases eu
      · rw [k3, k5]
  · have facts : ∀ {S' H' : Hp} {σ' : St} {ρ' : Env}, Abs K H S (fun c => c = b) S' σ' H' ρ' → Same S S' ∧ Same S' H' ∧ (∀ c o, S' c = some o → S c = some o ∨ H c = none) ∧ (∀ c o, H c = some o → c ≠ b → H' c = some o) ∧ ∀ c o, H c = some o → ∃ o', H' c = some o' :=
      fun {S' H' σ' ρ'} a' => ⟨a'.base, a'.sub, a'.grow, fun c o z n => a'.keep c o z n, a'.there⟩
    cases eF : F (p :: ps) with
    | bad => simp only [eF] at h
    | exc x =>
      simp only [eF] at h
      exact fun cls d S' H' a' => h cls d S' H' (a.lentGone e es hb (facts a'))
    | ok z q =>
      simp only [eF] at h
      intro v S' H' a' rv
      obtain ⟨c, o', k1, k2, k3, k4, k5, k6⟩ := a'.own 0 (.io q) q (by simp [argSl, ioSet]) rfl
      have hc : c = b := k3 rfl
      subst hc
      have aN := a.lentBack e es hb (facts a') k4 k5 k6
      refine h v S' H' aN ?_
      unfold RetRep at rv ⊢
      cases fr' with
      | false => simpa using rv
      | true =>
        simp only [if_true] at rv ⊢
        obtain ⟨c', o2, e2, f1, f2, f3, f4, _⟩ := rv
        refine ⟨c', o2, e2, a.none0 f1, f2, f3, f4, fun j t r ej et z => ?_⟩
        have key : ∃ t' r', ρ[j]? = some t' ∧ t'.own? = some r' := by
          by_cases hj : j = i
          · subst hj; exact ⟨s, p, e, es⟩
          · rw [List.getElem?_set_ne (Ne.symm hj)] at ej; exact ⟨t, r, ej, et⟩
        obtain ⟨t', r', e3, e4⟩ := key
        obtain ⟨c3, o3, y1, _, _, _, y5, _⟩ := a.own j t' r' e3 e4
        rw [z] at y1
        cases y1
        rw [f1] at y5; cases y5
theorem XOk.callIo {n : Nat} {F : List PV → FR} {fr' : Bool} {i : Nat} {ta : TA} {da : DenL} (ha : AOk K mg W ta da) (hn : ∀ ps, F ps ≠ .bad → ps.length = n) (Rl : RelT PV V) (hR : ∀ H₀ S H σ ρ p v, RetRep fr' K H₀ S H σ ρ p v → Rl H₀ S H σ ρ p v) :
    XOk K mg W Rl (tCallS (spD K mg true fr' n F) (WE W) (tCons (tVar i) ta)) (dCallIo F i da) := fun H₀ S₀ M S σ H ρ Q ab hp => by
  unfold dCallIo at hp
  cases e0 : ownAt ρ i with
  | none => rw [e0] at hp; exact hp.elim
  | some sp =>
    obtain ⟨s0, p0⟩ := sp
    rw [e0] at hp
    obtain ⟨e1, e2⟩ := ownAt_some e0
    obtain ⟨b, o, h1, _⟩ := ab.own i _ _ e1 e2
    refine ⟨.ref b, h1, ?_⟩
    refine ha.bind (Rl' := Rl) ab hp fun ps ρ1 vs S1 H1 _ a1 _ r hp => ?_
    cases e3 : ownAt ρ1 i with
    | none => rw [e3] at hp; exact hp.elim
    | some sp =>
      obtain ⟨s, p⟩ := sp
      rw [e3] at hp
      obtain ⟨e4, e5⟩ := ownAt_some e3
      cases eF : F (p :: ps) with
      | bad => simp only [eF] at hp; exact hp.elim
      | exc x =>
        simp only [eF] at hp
        refine callIo_pre a1 e4 e5 h1 r (by simpa using hn (p :: ps) (by rw [eF]; intro z; cases z)) ?_
        simp only [eF]
        exact fun cls d S' H' a2 re => hp cls d S' H' a2 re
      | ok z q =>
        simp only [eF] at hp
        refine callIo_pre a1 e4 e5 h1 r (by simpa using hn (p :: ps) (by rw [eF]; intro z; cases z)) ?_
        simp only [eF]
        exact fun v S' H' a2 rv => hp v S' H' a2 (hR _ _ _ _ _ _ _ rv)
theorem eo_callIo {n : Nat} {F : List PV → FR} {i : Nat} {ta : TA} {da : DenL} (ha : AOk K mg W ta da) (hn : ∀ ps, F ps ≠ .bad → ps.length = n) : EOk K mg W (tCallS (spD K mg true false n F) (WE W) (tCons (tVar i) ta)) (dCallIo F i da) :=
  XOk.callIo ha hn (rV K) fun _ _ _ _ _ _ _ h => h
theorem fo_callIo {n : Nat} {F : List PV → FR} {i : Nat} {ta : TA} {da : DenL} (ha : AOk K mg W ta da) (hn : ∀ ps, F ps ≠ .bad → ps.length = n) : FOk K mg W (tCallS (spD K mg true true n F) (WE W) (tCons (tVar i) ta)) (dCallIo F i da) :=
  XOk.callIo ha hn (rF K) fun _ _ _ _ _ _ _ h => h

/-! ### a def by its body -/
theorem body_ok {io fr : Bool} {n len : Nat} {t : TS} {d : DenS} {vs : List V} {H : Hp} {Q : VK} {E : XK} (hb : SOk K mg (fun cls dd _ H => E cls dd H) fr t d) (hl : n ≤ len) (h : spD K mg io fr n (runD io fr n len d) vs H Q E) :
    t { nx := fun _ H' => Q .non H', rt := Q } (vs.map some ++ List.replicate (len - vs.length) none) H := by
  obtain ⟨hv, S, M, ps, hM, ab, hne, h⟩ := h
  have hps : ps.length = n := by
    have z := ab.len
    rw [argSl_length, List.length_map] at z
    omega
  have start : Abs K H S M S (vs.map some ++ List.replicate (len - vs.length) none) H (argSl io ps ++ List.replicate (len - n) .un) := by
    refine ab.forget ?_ fun i s e hs => ?_
    · rw [List.length_append, List.length_append, argSl_length, List.length_replicate, List.length_replicate, List.length_map]
      omega
    · have hi : i < (argSl io ps).length := by
        rcases Nat.lt_or_ge i (argSl io ps).length with h | h
        · exact h
        · rw [List.getElem?_append_right h, List.getElem?_replicate] at e
          split at e
          · cases e; exact absurd rfl hs
          · cases e
      rw [List.getElem?_append_left hi] at e
      refine ⟨e, ?_⟩
      rw [List.getElem?_append_left (by rw [← ab.len]; exact hi)]
  -- back at the parameters
  have back : ∀ {S' : Hp} {σ' : St} {H' : Hp} {ρ' : Env} {q : PV}, Abs K H S M S' σ' H' ρ' → (io = true → ρ'[0]? = some (.io q)) → Abs K H S M S' (vs.map some) H' (argSl io (ioSet io ps q)) := fun {S' σ' H' ρ' q} a hq => by
    have il : (ioSet io ps q).length = ps.length := by unfold ioSet; split <;> simp
    refine ⟨by rw [argSl_length, il, ← argSl_length io ps]; exact ab.len, a.sub, a.base, a.grow, a.keep, a.there, fun i p e => ?_, fun i s p e es => ?_, fun i j s t p p' c e es e' es' z z' => ?_⟩
    · obtain ⟨p', k1, k2⟩ := argSl_get e
      rcases k2 with ⟨k2, k3⟩ | ⟨k2, _, _⟩
      · cases k2
        have e0 : ps[i]? = some p := by
          unfold ioSet at k1
          by_cases hio : io = true
          · rw [if_pos hio, List.getElem?_set_ne (Ne.symm (k3 hio))] at k1
            exact k1
          · rw [if_neg hio] at k1
            exact k1
        have e1 : (argSl io ps)[i]? = some (.sh p) := by
          unfold argSl
          split
          · rename_i r
            cases i with
            | zero => exact absurd rfl (k3 rfl)
            | succ i => simp at e0 ⊢; exact e0
          · simp [e0]
        obtain ⟨v, z1, z2⟩ := ab.sh i p e1
        exact ⟨v, z1, z2.up a.base⟩
      · cases k2
    · obtain ⟨p', k1, k2⟩ := argSl_get e
      rcases k2 with ⟨k2, k3⟩ | ⟨k2, hio, hi⟩
      · subst k2; cases es
      · subst k2; subst hi
        cases es
        unfold ioSet at k1
        rw [if_pos hio] at k1
        have hpq : p = q := by
          cases ps with
          | nil => simp at k1
          | cons a r => simp at k1; exact k1.symm
        subst hpq
        obtain ⟨c, o, z1, z2, z3, z4, z5, z6⟩ := a.own 0 _ _ (hq hio) rfl
        cases ps with
        | nil => exact absurd rfl (hne hio)
        | cons a0 r =>
          subst hio
          obtain ⟨c', o', y1, y2, y3, y4, y5, y6⟩ := ab.own 0 (.io a0) a0 (by simp [argSl]) rfl
          have hcc : c = c' := hM c c' (z3 rfl) (y3 rfl)
          subst hcc
          exact ⟨c, o, y1, (fun z => by cases z), fun _ => z3 rfl, z4, z5, z6⟩
    · obtain ⟨_, _, k2⟩ := argSl_get e
      obtain ⟨_, _, k4⟩ := argSl_get e'
      rcases k2 with ⟨k2, _⟩ | ⟨_, _, k3⟩
      · subst k2; cases es
      · rcases k4 with ⟨k4, _⟩ | ⟨_, _, k5⟩
        · subst k4; cases es'
        · rw [k3, k5]
  have rb : ∀ {S' : Hp} {σ' : St} {H' : Hp} {ρ' : Env} {p : PV} {v : V}, RetRep fr K H S' H' σ' ρ' p v → RetRep fr K H S' H' [] [] p v := fun {S' σ' H' ρ' p v} r => by
    unfold RetRep at r ⊢
    cases fr with
    | false => simpa using r
    | true =>
      simp only [if_true] at r ⊢
      obtain ⟨c, o, e, f1, f2, f3, f4, _⟩ := r
      exact ⟨c, o, e, f1, f2, f3, f4, fun j s q ej => by simp at ej⟩
  refine hb H S M S _ H _ _ start ?_
  unfold runD at h
  rw [if_pos hps] at h
  cases eR : d (argSl io ps ++ List.replicate (len - n) .un) with
  | bad => simp only [eR] at h
  | exc x ρ' => simp only [eR] at h; exact fun cls dd S' σ' H' a r => h cls dd S' H' a.bare r
  | bk ρ' => simp only [eR] at h
  | ct ρ' => simp only [eR] at h
  | nx ρ' =>
    simp only [eR] at h
    intro S' σ' H' a
    by_cases hf : fr = true
    · rw [if_pos hf] at h; exact h.elim
    · rw [if_neg hf] at h
      have rN : RetRep fr K H S' H' [] [] .non .non := by
        unfold RetRep
        rw [if_neg hf]
        exact .non
      unfold fin0 at h
      by_cases hio : io = true
      · rw [if_pos hio] at h
        cases e0 : io0 ρ' with
        | none => rw [e0] at h; exact h.elim
        | some q => rw [e0] at h; exact h .non S' H' (back a fun _ => io0_get e0) rN
      · rw [if_neg hio] at h
        exact h .non S' H' (back a fun z => absurd z hio) rN
  | rt p ρ' =>
    simp only [eR] at h
    intro v S' σ' H' a r
    unfold fin0 at h
    by_cases hio : io = true
    · rw [if_pos hio] at h
      cases e0 : io0 ρ' with
      | none => rw [e0] at h; exact h.elim
      | some q => rw [e0] at h; exact h v S' H' (back a fun _ => io0_get e0) (rb r)
    · rw [if_neg hio] at h
      exact h v S' H' (back a fun z => absurd z hio) (rb r)
end
/-- THE RULE for a def -/
theorem fn_ok {P : Program} {w : World} {K : PySem.W.Frag} {mg : Str → Option Value} {base : Heap} {x qual : Str} {st : Stmt} {f : Addr} {fd : FuncData} {N ps : List Str} {k : Nat} {io fr : Bool} {d : DenS} (F : Fun K x qual st f fd) (S : FnScope N ps (defScope st))
    (hl : ps.length ≤ N.length)
    (hbody : ∀ (cdv : Value) (A : Around) (outer : List PySem.Env) (s : Shared) (H : Hp) (E : XK), Room k (A.deeper (PyProof.Rows.envOfC qual (defScope st) s.heap.objs.size f cdv)) →
      ∃ t, PSs (cxOf (L2.CX P w) P w K mg base N qual (defScope st) f cdv A outer s H E) (defBody st) t ∧ SOk K mg (fun cls dd _ H => E cls dd H) fr t d) :
    FnOk P w K mg base (L2.CX P w) (k + 1) f fd ps (spD K mg io fr ps.length (runD io fr ps.length N.length d)) :=
  F.okX S (fun vs H Q E h => h.1) fun cdv A outer s H vs Q E hr h => by
    obtain ⟨t, h1, h2⟩ := hbody cdv A outer s H E hr
    refine ⟨t, h1, ?_⟩
    have z := body_ok h2 hl h
    exact z
/-- a promise by a function that agrees -/
theorem fn_eq {P : Program} {w : World} {K : PySem.W.Frag} {mg : Str → Option Value} {base : Heap} {CX : CXT} {k n : Nat} {f : Addr} {fd : FuncData} {ps : List Str} {io fr : Bool} {F G : List PV → FR} (h : FnOk P w K mg base CX k f fd ps (spD K mg io fr n F)) (e : ∀ ps, G ps ≠ .bad → F ps = G ps) :
    FnOk P w K mg base CX k f fd ps (spD K mg io fr n G) := h.imp fun vs H Q E q => by
  obtain ⟨h1, S, M, qs, h2, h3, h4, h5⟩ := q
  refine ⟨h1, S, M, qs, h2, h3, h4, ?_⟩
  cases eG : G qs with
  | bad => rw [eG] at h5; exact h5.elim
  | exc x => rw [e qs (by rw [eG]; intro z; cases z), eG]; rw [eG] at h5; exact h5
  | ok p q => rw [e qs (by rw [eG]; intro z; cases z), eG]; rw [eG] at h5; exact h5
end PL

set_option Elab.async false
set_option linter.all false
set_option maxRecDepth 100000
set_option maxHeartbeats 4000000
namespace PL
open PySem PySem.Spec L2
set_option autoImplicit false

/-! ### plain values as data -/
mutual
def PV.toD : PV → PyData
  | .non => .none
  | .bl b => .bool b
  | .int i => .int i
  | .str x => .str x
  | .lst ps => .list (toDs ps)
  | .tup ps => .tuple (toDs ps)
  | .ktup ps => .tuple (toDs ps)
  | .dic _ _ _ => .dict []
  | .fn _ => .dict []
  | .klst _ => .dict []
def toDs : List PV → List PyData
  | [] => []
  | p :: ps => p.toD :: toDs ps
end
section
variable {K : PySem.W.Frag} {S H : Hp}
mutual
theorem Rep.dp (e : Same S H) : ∀ (p : PV) (v : V), Rep K S p v → p.toD.canLay0 = true → Dp K H v p.toD
  | .non, _, h, _ => by cases h; exact .non
  | .bl b, _, h, _ => by cases h; exact .bl b
  | .int i, _, h, _ => by cases h; exact .int i
  | .str x, _, h, _ => by cases h; exact .str x
  | .fn a, _, h, c => by simp [PV.toD, PyData.canLay0] at c
  | .lst ps, _, h, c => by
    cases h with
    | lst h1 h2 => exact .lst (.inl (.inl (e _ _ h1))) (RepL.dp e ps _ h2 (by simpa [PV.toD, PyData.canLay0] using c))
  | .tup ps, _, h, c => by
    cases h with
    | tup h1 h2 => exact .tup (.inl (.inl (e _ _ h1))) (RepL.dp e ps _ h2 (by simpa [PV.toD, PyData.canLay0] using c))
  | .ktup ps, _, h, c => by
    cases h with
    | ktup h1 h2 => exact .tup (Same.tupK e h1) (RepL.dp e ps _ h2 (by simpa [PV.toD, PyData.canLay0] using c))
  | .dic t ks ps, _, h, c => by simp [PV.toD, PyData.canLay0] at c
  | .klst ps, _, h, c => by simp [PV.toD, PyData.canLay0] at c
theorem RepL.dp (e : Same S H) : ∀ (ps : List PV) (vs : List V), RepL K S ps vs → PyData.canLayAll0 (toDs ps) = true → DpAll K H vs (toDs ps)
  | [], _, h, _ => by cases h; exact .nil
  | p :: ps, _, h, c => by
    cases h with
    | cons h1 h2 =>
      have c' : p.toD.canLay0 = true ∧ PyData.canLayAll0 (toDs ps) = true := by simpa [toDs, PyData.canLayAll0] using c
      exact .cons (Rep.dp e p _ h1 c'.1) (RepL.dp e ps _ h2 c'.2)
end
end

/-! ### operations on plain values -/
def gAdd : PV → PV → Option PV
  | .int i, .int j => some (.int (i + j))
  | .str x, .str y => if x.length + y.length ≤ sizeLine then some (.str (x ++ y)) else none
  | .lst xs, .lst ys => if xs.length + ys.length ≤ sizeLine then some (.lst (xs ++ ys)) else none
  | .tup xs, .tup ys => if xs.length + ys.length ≤ sizeLine then some (.tup (xs ++ ys)) else none
  | _, _ => none
def gCat : PV → PV → Option PV := fun p q => match p, q with
    | .lst xs, .lst ys => if xs.length + ys.length ≤ sizeLine then some (.lst (xs ++ ys)) else none
    | _, _ => none
def gRep : PV → PV → Option PV := fun p q => match p, q with
    | .lst xs, .int k => if decide (-(2 ^ 63) ≤ k) && decide (k < 2 ^ 63) && decide (xs.length * k.toNat ≤ sizeLine) then some (.lst (List.replicate k.toNat xs).flatten) else none
    | _, _ => none
def gSub : PV → PV → Option PV
  | .int i, .int j => some (.int (i - j))
  | _, _ => none
def smallI (i : Int) : Bool := decide (-(2 ^ 64) < i) && decide (i < 2 ^ 64)
def gMul : PV → PV → Option PV
  | .int i, .int j => if smallI i || smallI j then some (.int (i * j)) else none
  | .lst xs, .int k => if decide (-(2 ^ 63) ≤ k) && decide (k < 2 ^ 63) && decide (xs.length * k.toNat ≤ sizeLine) then some (.lst (List.replicate k.toNat xs).flatten) else none
  | _, _ => none
def gFdiv : PV → PV → Option PV
  | .int i, .int j => if decide (0 < j) && decide (j < 1073741824) then some (.int (i / j)) else none
  | _, _ => none
def gMod : PV → PV → Option PV
  | .int i, .int j => if decide (0 < j) then some (.int (i % j)) else none
  | _, _ => none
def gPow : PV → PV → Option PV
  | .int i, .int j => if decide (0 ≤ j) && decide (j ≤ 1000000) && decide (i.natAbs < 2 ^ 64) then some (.int (i ^ j.toNat)) else none
  | _, _ => none
def gNeg : PV → Option PV
  | .int i => some (.int (-i))
  | _ => none
def gCmpI (f : Int → Int → Bool) : PV → PV → Option PV
  | .int i, .int j => some (.bl (f i j))
  | _, _ => none
abbrev gLt := gCmpI fun i j => decide (i < j)
abbrev gLe := gCmpI fun i j => decide (i ≤ j)
abbrev gGt := gCmpI fun i j => decide (j < i)
abbrev gGe := gCmpI fun i j => decide (j ≤ i)
def pvEq (p q : PV) : Bool := PyData.eqv p.toD q.toD
def gEq (p q : PV) : Option PV := if SeqAt.shaped p.toD && SeqAt.shaped q.toD then some (.bl (pvEq p q)) else none
def gNe (p q : PV) : Option PV := if SeqAt.shaped p.toD && SeqAt.shaped q.toD then some (.bl (!pvEq p q)) else none
def gIsN (neg : Bool) : PV → PV → Option PV
  | .non, .non => some (.bl (!neg))
  | .fn _, .non => none
  | _, .non => some (.bl neg)
  | _, _ => none
/-- one sign of a text -/
def sgn1 (x : Str) : Option Nat := match x.cps.toList with
  | [c] => some c
  | _ => none
def gIn (neg : Bool) : PV → PV → Option PV
  | .str x, .str z => (sgn1 x).map fun c => .bl (if neg then !decide (c ∈ z.cps.toList) else decide (c ∈ z.cps.toList))
  | p, .lst ps => if SeqAt.shaped p.toD && SeqAt.shaped (PV.lst ps).toD then some (.bl (if neg then !ps.any (fun y => pvEq y p) else ps.any fun y => pvEq y p)) else none
  | _, _ => none
def gIx : PV → PV → Option PV
  | .lst ps, .int i => atI ps i
  | .tup ps, .int i => atI ps i
  | .ktup ps, .int i => atI ps i
  | .klst ps, .int i => atI ps i
  | .str z, .int i => if z.length ≤ sizeLine then (atI z.cps.toList i).map fun c => .str ⟨#[c]⟩ else none
  | _, _ => none
def cutP {α : Type} (xs : List α) (lo hi : Option Int) : List α := (xs.drop (HT.sIx xs.length 0 lo)).take (HT.sIx xs.length xs.length hi - HT.sIx xs.length 0 lo)
def gLen : PV → Option PV
  | .lst ps => some (.int ps.length)
  | .tup ps => some (.int ps.length)
  | .ktup ps => some (.int ps.length)
  | .klst ps => some (.int ps.length)
  | .str z => if z.length ≤ sizeLine then some (.int z.length) else none
  | _ => none
def ints? : List PV → Option (List Int)
  | [] => some []
  | .int i :: r => (ints? r).map (i :: ·)
  | _ :: _ => none
def strs? : List PV → Option (List Str)
  | [] => some []
  | .str i :: r => (strs? r).map (i :: ·)
  | _ :: _ => none
def gSum : PV → Option PV
  | .lst ps => (ints? ps).map fun ns => .int ns.sum
  | _ => none
section
variable {K : PySem.W.Frag}
theorem RepL.ints {S : Hp} : ∀ {ps : List PV} {vs : List V} {ns : List Int}, RepL K S ps vs → ints? ps = some ns → vs = ns.map V.int
  | [], _, _, h, e => by cases h; cases e; rfl
  | p :: ps, _, ns, h, e => by
    cases h with
    | cons h1 h2 =>
      cases p with
      | int i =>
        unfold ints? at e
        cases e1 : ints? ps with
        | none => rw [e1] at e; cases e
        | some ms =>
          rw [e1] at e
          cases e
          cases h1
          rw [RepL.ints h2 e1]
          rfl
      | _ => cases e
theorem RepL.strs {S : Hp} : ∀ {ps : List PV} {vs : List V} {ns : List Str}, RepL K S ps vs → strs? ps = some ns → vs = ns.map V.str
  | [], _, _, h, e => by cases h; cases e; rfl
  | p :: ps, _, ns, h, e => by
    cases h with
    | cons h1 h2 =>
      cases p with
      | str i =>
        unfold strs? at e
        cases e1 : strs? ps with
        | none => rw [e1] at e; cases e
        | some ms =>
          rw [e1] at e
          cases e
          cases h1
          rw [RepL.strs h2 e1]
          rfl
      | _ => cases e
theorem RepL.atI {S : Hp} {ps : List PV} {vs : List V} {i : Int} {p : PV} (h : RepL K S ps vs) (e : L2.atI ps i = some p) : ∃ v, L2.atI vs i = some v ∧ Rep K S p v := by
  unfold L2.atI at e ⊢
  rw [← h.length]
  cases e1 : ixN ps.length i with
  | none => rw [e1] at e; cases e
  | some j =>
    rw [e1] at e
    exact h.get e
theorem RepL.cut {S : Hp} {ps : List PV} {vs : List V} {lo hi : Option Int} (h : RepL K S ps vs) : RepL K S (cutP ps lo hi) (cutV vs lo hi) := by
  unfold cutP cutV
  rw [h.length]
  exact (h.drop _).take _
theorem RepL.flat {S : Hp} {ps : List PV} {vs : List V} (h : RepL K S ps vs) : ∀ n, RepL K S (List.replicate n ps).flatten (List.replicate n vs).flatten
  | 0 => .nil
  | n + 1 => by
    rw [List.replicate_succ, List.replicate_succ, List.flatten_cons, List.flatten_cons]
    exact h.append (RepL.flat h n)
/-! ### .. and the rules by values -/
def rAddU (K : PySem.W.Frag) : R2 := fun x y H Q => (∃ i j, x = .int i ∧ y = .int j ∧ Q (.int (i + j)) H) ∨ (∃ i j, x = .str i ∧ y = .str j ∧ i.length + j.length ≤ sizeLine ∧ Q (.str (i ++ j)) H) ∨ rCat x y H Q ∨ rCatA K x y H Q
theorem op_addU {X : Cx} : OpR X (binaryOp .Add) (rAddU X.K) := OpR.or op_add (OpR.or op_add_str (OpR.or op_cat op_catA))
theorem v2_cat : V2F K rCat gCat := by
  intro S H x y p q z Q s rx ry e k
  unfold gCat at e
  split at e
  · rename_i xs ys
    split at e
    · rename_i hz
      cases e
      cases rx with
      | lst h1 h2 =>
        cases ry with
        | lst h3 h4 =>
          rw [h2.length, h4.length] at hz
          exact ⟨_, _, _, _, rfl, rfl, s _ _ h1, s _ _ h3, hz, fun a n => k a _ n (h2.append h4)⟩
    · cases e
  · cases e
theorem v2_add : V2 K (rAddU K) gAdd := by
  intro S H x y p q z Q s rx ry e k
  unfold gAdd at e
  split at e
  · cases rx; cases ry; cases e
    exact .inl ⟨_, _, rfl, rfl, k _ S H (Step.refl s) (.int _)⟩
  · split at e
    · rename_i hz
      cases rx; cases ry; cases e
      exact .inr (.inl ⟨_, _, rfl, rfl, hz, k _ S H (Step.refl s) (.str _)⟩)
    · cases e
  · exact .inr (.inr (.inl (v2_cat.v2 S H x y _ _ z Q s rx ry e k)))
  · split at e
    · rename_i xs ys hz
      cases e
      refine .inr (.inr (.inr ?_))
      cases rx with
      | tup h1 h2 =>
        cases ry with
        | tup h3 h4 =>
          rename_i a vs b us
          have hz' := hz
          rw [h2.length, h4.length] at hz'
          refine ⟨_, _, _, _, rfl, rfl, .inl (.inl (s _ _ h1)), .inl (.inl (s _ _ h3)), hz', fun e1 => ?_, fun _ e2 => ?_, fun _ _ c n => ?_⟩
          · subst e1
            cases h2
            exact k _ S H (Step.refl s) (.tup h3 h4)
          · subst e2
            cases h4
            rw [List.append_nil] at k
            exact k _ S H (Step.refl s) (.tup h1 h2)
          · refine k _ (upd S c (.tup (vs ++ us))) _ (Step.new1 s n) ?_
            exact .tup upd_same ((h2.append h4).up (same_upd (Same.free s n)))
    · cases e
  · cases e
theorem v2_sub : V2 K (rI0 fun i j => .int (i - j)) gSub := by
  intro S H x y p q z Q s rx ry e k
  unfold gSub at e
  split at e
  · cases rx; cases ry; cases e
    exact ⟨_, _, rfl, rfl, k _ S H (Step.refl s) (.int _)⟩
  · cases e
def rMulU : R2 := fun x y H Q => rI CMul (fun i j => .int (i * j)) x y H Q ∨ rRep x y H Q
theorem op_mulU {X : Cx} : OpR X (binaryOp .Mult) rMulU := OpR.or op_mul op_rep
theorem smallI_iff {i : Int} : smallI i = true ↔ -(2 ^ 64) < i ∧ i < 2 ^ 64 := by unfold smallI; simp
theorem v2_rep : V2F K rRep gRep := by
  intro S H x y p q z Q s rx ry e k
  unfold gRep at e
  split at e
  · rename_i xs n
    split at e
    · rename_i hz
      cases e
      simp only [Bool.and_eq_true, decide_eq_true_eq] at hz
      cases rx with
      | lst h1 h2 =>
        cases ry
        rw [h2.length] at hz
        exact ⟨_, _, _, rfl, rfl, s _ _ h1, hz.1.1, hz.1.2, hz.2, fun a n' => k a _ n' (h2.flat _)⟩
    · cases e
  · cases e
theorem v2_mul : V2 K rMulU gMul := by
  intro S H x y p q z Q s rx ry e k
  unfold gMul at e
  split at e
  · split at e
    · rename_i hz
      cases rx; cases ry; cases e
      refine .inl ⟨_, _, rfl, rfl, ?_, k _ S H (Step.refl s) (.int _)⟩
      rcases (Bool.or_eq_true _ _).mp hz with h | h
      · exact .inl (smallI_iff.mp h)
      · exact .inr (smallI_iff.mp h)
    · cases e
  · rename_i xs n
    exact .inr (v2_rep.v2 S H x y (.lst xs) (.int n) z Q s rx ry e k)
  · cases e
theorem v2_fdiv : V2 K (rI CDiv fun i j => .int (i / j)) gFdiv := by
  intro S H x y p q z Q s rx ry e k
  unfold gFdiv at e
  split at e
  · split at e
    · rename_i hz
      simp only [Bool.and_eq_true, decide_eq_true_eq] at hz
      cases rx; cases ry; cases e
      exact ⟨_, _, rfl, rfl, hz, k _ S H (Step.refl s) (.int _)⟩
    · cases e
  · cases e
theorem v2_mod : V2 K (rI (fun _ j => 0 < j) fun i j => .int (i % j)) gMod := by
  intro S H x y p q z Q s rx ry e k
  unfold gMod at e
  split at e
  · split at e
    · rename_i hz
      cases rx; cases ry; cases e
      exact ⟨_, _, rfl, rfl, of_decide_eq_true hz, k _ S H (Step.refl s) (.int _)⟩
    · cases e
  · cases e
theorem v2_pow : V2 K (rI CPow fun i j => .int (i ^ j.toNat)) gPow := by
  intro S H x y p q z Q s rx ry e k
  unfold gPow at e
  split at e
  · split at e
    · rename_i hz
      simp only [Bool.and_eq_true, decide_eq_true_eq] at hz
      cases rx; cases ry; cases e
      exact ⟨_, _, rfl, rfl, ⟨hz.1.1, hz.1.2, hz.2⟩, k _ S H (Step.refl s) (.int _)⟩
    · cases e
  · cases e
theorem v1_neg : V1 K (rU fun i => .int (-i)) gNeg := by
  intro S H x p z Q s rx e k
  unfold gNeg at e
  split at e
  · cases rx; cases e
    exact ⟨_, rfl, k _ S H (Step.refl s) (.int _)⟩
  · cases e
theorem v2_cmp {f : Int → Int → Bool} : V2 K (rI0 fun i j => .bl (f i j)) (gCmpI f) := by
  intro S H x y p q z Q s rx ry e k
  unfold gCmpI at e
  split at e
  · cases rx; cases ry; cases e
    exact ⟨_, _, rfl, rfl, k _ S H (Step.refl s) (.bl _)⟩
  · cases e
theorem v2_eq : V2 K (rEqD K) gEq := by
  intro S H x y p q z Q s rx ry e k
  unfold gEq at e
  split at e
  · rename_i hz
    cases e
    obtain ⟨h1, h2⟩ := (Bool.and_eq_true _ _).mp hz
    exact ⟨_, _, rx.dp s _ _ (SeqAt.canLay_of_shaped h1), ry.dp s _ _ (SeqAt.canLay_of_shaped h2), h1, h2, k _ S H (Step.refl s) (.bl _)⟩
  · cases e
theorem v2_ne : V2 K (rNeD K) gNe := by
  intro S H x y p q z Q s rx ry e k
  unfold gNe at e
  split at e
  · rename_i hz
    cases e
    obtain ⟨h1, h2⟩ := (Bool.and_eq_true _ _).mp hz
    exact ⟨_, _, rx.dp s _ _ (SeqAt.canLay_of_shaped h1), ry.dp s _ _ (SeqAt.canLay_of_shaped h2), h1, h2, k _ S H (Step.refl s) (.bl _)⟩
  · cases e
theorem rep_non {S : Hp} {p : PV} {x : V} (r : Rep K S p x) : decide (x = .non) = (match p with | .non => true | _ => false) := by
  cases r <;> simp
theorem v2_isN : V2 K (fun x y H Q => y = .non ∧ Q (.bl (decide (x = .non))) H) (gIsN false) := by
  intro S H x y p q z Q s rx ry e k
  have hr := rep_non rx
  cases q with
  | non =>
    cases ry
    refine ⟨rfl, ?_⟩
    rw [hr]
    cases p <;> simp [gIsN] at e <;> subst e <;> exact k _ S H (Step.refl s) (.bl _)
  | _ => cases p <;> simp [gIsN] at e
theorem v2_notN : V2 K (fun x y H Q => y = .non ∧ Q (.bl (!decide (x = .non))) H) (gIsN true) := by
  intro S H x y p q z Q s rx ry e k
  have hr := rep_non rx
  cases q with
  | non =>
    cases ry
    refine ⟨rfl, ?_⟩
    rw [hr]
    cases p <;> simp [gIsN] at e <;> subst e <;> exact k _ S H (Step.refl s) (.bl _)
  | _ => cases p <;> simp [gIsN] at e
theorem sgn1_eq {x : Str} {c : Nat} (h : sgn1 x = some c) : x = ⟨#[c]⟩ := by
  unfold sgn1 at h
  split at h
  · rename_i d e
    cases h
    exact Str.ext' (by rw [← Array.toArray_toList (xs := x.cps), e])
  · cases h
theorem any_toDs (p : PV) : ∀ ps : List PV, (toDs ps).any (fun z => PyData.eqv z p.toD) = ps.any fun y => pvEq y p
  | [] => rfl
  | q :: ps => by
    show (PyData.eqv q.toD p.toD || (toDs ps).any fun z => PyData.eqv z p.toD) = _
    rw [any_toDs p ps]
    rfl
def rInU (K : PySem.W.Frag) : R2 := fun x y H Q => (∃ (c : Nat) (z : Str), x = .str ⟨#[c]⟩ ∧ y = .str z ∧ Q (.bl (decide (c ∈ z.cps.toList))) H) ∨ rInD K x y H Q
def rNotInU (K : PySem.W.Frag) : R2 := fun x y H Q => (∃ (c : Nat) (z : Str), x = .str ⟨#[c]⟩ ∧ y = .str z ∧ Q (.bl (!decide (c ∈ z.cps.toList))) H) ∨ rNotInD K x y H Q
theorem v2_in : V2 K (rInU K) (gIn false) := by
  intro S H x y p q z Q s rx ry e k
  unfold gIn at e
  split at e
  · rename_i a b
    cases hs : sgn1 a with
    | none => rw [hs] at e; cases e
    | some c =>
      rw [hs] at e
      cases e
      cases rx; cases ry
      rw [sgn1_eq hs]
      exact .inl ⟨c, _, rfl, rfl, k _ S H (Step.refl s) (.bl _)⟩
  · rename_i ps _
    split at e
    · rename_i hz
      cases e
      obtain ⟨h1, h2⟩ := (Bool.and_eq_true _ _).mp hz
      refine .inr ⟨_, _, rx.dp s _ _ (SeqAt.canLay_of_shaped h1), ry.dp s _ _ (SeqAt.canLay_of_shaped h2), h1, h2, ?_⟩
      rw [any_toDs]
      exact k _ S H (Step.refl s) (.bl _)
    · cases e
  · cases e
theorem v2_notIn : V2 K (rNotInU K) (gIn true) := by
  intro S H x y p q z Q s rx ry e k
  unfold gIn at e
  split at e
  · rename_i a b
    cases hs : sgn1 a with
    | none => rw [hs] at e; cases e
    | some c =>
      rw [hs] at e
      cases e
      cases rx; cases ry
      rw [sgn1_eq hs]
      exact .inl ⟨c, _, rfl, rfl, k _ S H (Step.refl s) (.bl _)⟩
  · rename_i ps _
    split at e
    · rename_i hz
      cases e
      obtain ⟨h1, h2⟩ := (Bool.and_eq_true _ _).mp hz
      refine .inr ⟨_, _, rx.dp s _ _ (SeqAt.canLay_of_shaped h1), ry.dp s _ _ (SeqAt.canLay_of_shaped h2), h1, h2, ?_⟩
      rw [any_toDs]
      exact k _ S H (Step.refl s) (.bl _)
    · cases e
  · cases e
theorem v2_ix : V2 K (rIx K) gIx := by
  intro S H x y p q z Q s rx ry e k
  unfold gIx at e
  split at e
  · cases ry
    cases rx with
    | lst h1 h2 =>
      obtain ⟨v, h3, h4⟩ := h2.atI e
      exact .inl ⟨_, _, _, _, rfl, rfl, .inl (.inl (s _ _ h1)), h3, k _ S H (Step.refl s) h4⟩
  · cases ry
    cases rx with
    | tup h1 h2 =>
      obtain ⟨v, h3, h4⟩ := h2.atI e
      exact .inr (.inl ⟨_, _, _, _, rfl, rfl, .inl (.inl (s _ _ h1)), h3, k _ S H (Step.refl s) h4⟩)
  · cases ry
    cases rx with
    | ktup h1 h2 =>
      obtain ⟨v, h3, h4⟩ := h2.atI e
      exact .inr (.inl ⟨_, _, _, _, rfl, rfl, Same.tupK s h1, h3, k _ S H (Step.refl s) h4⟩)
  · cases ry
    cases rx with
    | klst h1 h2 =>
      obtain ⟨v, h3, h4⟩ := h2.atI e
      exact .inl ⟨_, _, _, _, rfl, rfl, Same.lstK s h1, h3, k _ S H (Step.refl s) h4⟩
  · cases ry; cases rx
    split at e
    · rename_i z' i hz
      cases h : L2.atI z'.cps.toList i with
      | none => rw [h] at e; cases e
      | some c =>
        rw [h] at e
        cases e
        exact .inr (.inr ⟨_, _, _, rfl, rfl, hz, h, k _ S H (Step.refl s) (.str _)⟩)
    · cases e
  · cases e
theorem vt_truth : VT K (fun x H Q => ∃ k, TruV K x H k ∧ Q k H) truth := by
  intro S H x p z Q s rx e k
  cases p with
  | non => cases rx; cases e; exact ⟨_, rfl, k⟩
  | bl b => cases rx; cases e; exact ⟨_, rfl, k⟩
  | int i => cases rx; cases e; exact ⟨_, rfl, k⟩
  | str y =>
    cases rx
    have e : (if y.length ≤ sizeLine then some ((y.length : Int) != 0) else none) = some z := e
    split at e
    · rename_i hz
      cases e
      exact ⟨_, ⟨hz, rfl⟩, k⟩
    · cases e
  | lst ps =>
    cases rx with
    | lst h1 h2 =>
      cases e
      refine ⟨_, .inl ⟨_, .inl (.inl (s _ _ h1)), ?_⟩, k⟩
      cases h2 <;> rfl
  | tup ps =>
    cases rx with
    | tup h1 h2 =>
      cases e
      refine ⟨_, .inr (.inl ⟨_, .inl (.inl (s _ _ h1)), ?_⟩), k⟩
      cases h2 <;> rfl
  | ktup ps =>
    cases rx with
    | ktup h1 h2 =>
      cases e
      refine ⟨_, .inr (.inl ⟨_, Same.tupK s h1, ?_⟩), k⟩
      cases h2 <;> rfl
  | klst ps =>
    cases rx with
    | klst h1 h2 =>
      cases e
      refine ⟨_, .inl ⟨_, Same.lstK s h1, ?_⟩, k⟩
      cases h2 <;> rfl
  | dic t ks ps => cases e
  | fn a => cases e
/-! ### slices -/
def VS (K : PySem.W.Frag) (r : V → Option Int → Option Int → Hp → VK → Prop) (g : PV → Option Int → Option Int → Option PV) : Prop :=
  ∀ (S H : Hp) (x : V) (p z : PV) (lo hi : Option Int) (Q : VK), Same S H → Rep K S p x → g p lo hi = some z → (∀ v S' H', Step S H S' H' → Rep K S' z v → Q v H') → r x lo hi H Q
def VSF (K : PySem.W.Frag) (r : V → Option Int → Option Int → Hp → VK → Prop) (g : PV → Option Int → Option Int → Option PV) : Prop :=
  ∀ (S H : Hp) (x : V) (p z : PV) (lo hi : Option Int) (Q : VK), Same S H → Rep K S p x → g p lo hi = some z → (∀ a o, H a = none → OwnO K S z o → Q (.ref a) (upd H a o)) → r x lo hi H Q
def gSl : PV → Option Int → Option Int → Option PV
  | .lst ps, lo, hi => some (.lst (cutP ps lo hi))
  | .tup ps, lo, hi => some (.tup (cutP ps lo hi))
  | .str z, lo, hi => if z.length ≤ sizeLine then some (.str (cutS z lo hi)) else none
  | _, _, _ => none
def gSlL : PV → Option Int → Option Int → Option PV
  | .lst ps, lo, hi => some (.lst (cutP ps lo hi))
  | _, _, _ => none
theorem vsf_list : VSF K (rSlL K) gSlL := by
  intro S H x p z lo hi Q s rx e k
  unfold gSlL at e
  split at e
  · cases e
    cases rx with
    | lst h1 h2 => exact ⟨_, _, rfl, .inl (.inl (s _ _ h1)), fun a n => k a _ n h2.cut⟩
  · cases e
def rSlU (K : PySem.W.Frag) : V → Option Int → Option Int → Hp → VK → Prop := fun x lo hi H Q => rSlL K x lo hi H Q ∨ rSlA K x lo hi H Q ∨ rSlS x lo hi H Q
theorem sl_U {X : Cx} : SlR X (rSlU X.K) := sl_list.or (sl_tupA.or sl_str)
theorem cut_all {α : Type} (xs : List α) (lo hi : Option Int) (h : HT.sIx xs.length 0 lo = 0 ∧ HT.sIx xs.length xs.length hi = xs.length) : cutP xs lo hi = xs := by
  unfold cutP
  rw [h.1, h.2]
  simp
theorem vs_U : VS K (rSlU K) gSl := by
  intro S H x p z lo hi Q s rx e k
  unfold gSl at e
  split at e
  · cases e
    cases rx with
    | lst h1 h2 => exact .inl ⟨_, _, rfl, .inl (.inl (s _ _ h1)), fun a n => k _ _ _ (own_new (z := .lst _) (o := .lst _) s n h2.cut).1 (own_new (z := .lst _) (o := .lst _) s n h2.cut).2⟩
  · cases e
    cases rx with
    | tup h1 h2 =>
      rename_i ps a vs
      refine .inr (.inl ⟨_, _, rfl, .inl (.inl (s _ _ h1)), fun hw => ?_, fun hw c n => ?_⟩)
      · rw [← h2.length] at hw
        rw [cut_all ps _ _ hw] at k
        exact k _ S H (Step.refl s) (.tup h1 h2)
      · refine k _ (upd S c (.tup (cutV vs lo hi))) _ (Step.new1 s n) ?_
        exact .tup upd_same (h2.cut.up (same_upd (Same.free s n)))
  · split at e
    · rename_i hz
      cases e
      cases rx
      exact .inr (.inr ⟨_, rfl, hz, k _ S H (Step.refl s) (.str _)⟩)
    · cases e
  · cases e
end
/-! a slice's parts -/
abbrev DenO := Env → Rs (Option Int)
def rO : RelT (Option Int) (Option Int) := fun _ _ _ _ _ a b => b = a
abbrev OOk (K : PySem.W.Frag) (mg : Str → Option Value) (W : WX) (t : TO) (d : DenO) : Prop := XOk K mg W rO t d
def oNone : DenO := fun ρ => .ok none ρ
def PV.int? : PV → Option Int
  | .int i => some i
  | _ => none
def oSome (da : Den) : DenO := fun ρ => (da ρ).bind fun p ρ1 => opt (p.int?.map some) ρ1
def dSl (g : PV → Option Int → Option Int → Option PV) (da : Den) (dl dh : DenO) : Den := fun ρ => (da ρ).bind fun p ρ1 => (dl ρ1).bind fun l ρ2 => (dh ρ2).bind fun h ρ3 => opt (g p l h) ρ3
/-- a slice of a slot that is only looked at: lists and texts -/
def dSlv (g : PV → Option Int → Option Int → Option PV) (i : Nat) (dl dh : DenO) : Den := fun ρ => match slot ρ i with
  | none => .bad
  | some _ => (dl ρ).bind fun l ρ2 => (dh ρ2).bind fun h ρ3 => match slot ρ3 i with
    | none => .bad
    | some p => opt (g p l h) ρ3
section
variable {K : PySem.W.Frag} {mg : Str → Option Value} {W : WX}
theorem oo_none : OOk K mg W tNoPart oNone := fun H₀ S₀ M S σ H ρ Q ab hp => hp none S H ab rfl
theorem oo_some {te : TE} {da : Den} (ha : EOk K mg W te da) : OOk K mg W (tPart te) (oSome da) := fun H₀ S₀ M S σ H ρ Q ab hp =>
  ha.bind (Rl' := rO) ab hp fun p ρ1 v S1 H1 _ a1 _ r1 hp => by
    cases p with
    | int i =>
      cases r1
      exact ⟨i, rfl, hp (some i) S1 H1 a1 rfl⟩
    | _ => exact hp.elim
theorem eo_sl {te : TE} {da : Den} {tl th : TO} {dl dh : DenO} {r : V → Option Int → Option Int → Hp → VK → Prop} {g : PV → Option Int → Option Int → Option PV} (ha : EOk K mg W te da) (hl : OOk K mg W tl dl) (hh : OOk K mg W th dh) (hr : VS K r g) : EOk K mg W (tSl r te tl th) (dSl g da dl dh) := fun H₀ S₀ M S σ H ρ Q ab hp =>
  ha.bind (Rl' := rV K) ab hp fun p ρ1 v S1 H1 _ a1 _ r1 hp => hl.bind (Rl' := rV K) a1 hp fun l ρ2 l' S2 H2 _ a2 s2 r2 hp => hh.bind (Rl' := rV K) a2 hp fun h ρ3 h' S3 H3 _ a3 s3 r3 hp => by
    cases r2; cases r3
    cases e : g p l h with
    | none => rw [e] at hp; exact hp.elim
    | some z =>
      rw [e] at hp
      exact hr S3 H3 v p z l h Q a3.sub (r1.up (s2.trans s3)) e fun v' S4 H4 st rz => hp v' S4 H4 (a3.step st) rz
theorem fo_sl {te : TE} {da : Den} {tl th : TO} {dl dh : DenO} {r : V → Option Int → Option Int → Hp → VK → Prop} {g : PV → Option Int → Option Int → Option PV} (ha : EOk K mg W te da) (hl : OOk K mg W tl dl) (hh : OOk K mg W th dh) (hr : VSF K r g) : FOk K mg W (tSl r te tl th) (dSl g da dl dh) := fun H₀ S₀ M S σ H ρ Q ab hp =>
  ha.bind (Rl' := rF K) ab hp fun p ρ1 v S1 H1 _ a1 _ r1 hp => hl.bind (Rl' := rF K) a1 hp fun l ρ2 l' S2 H2 _ a2 s2 r2 hp => hh.bind (Rl' := rF K) a2 hp fun h ρ3 h' S3 H3 _ a3 s3 r3 hp => by
    cases r2; cases r3
    cases e : g p l h with
    | none => rw [e] at hp; exact hp.elim
    | some z =>
      rw [e] at hp
      exact hr S3 H3 v p z l h Q a3.sub (r1.up (s2.trans s3)) e fun a o n w => hp _ S3 _ (a3.fresh n w).1 (a3.fresh n w).2
/-- the items of an owned list are shared -/
theorem own_lst {S : Hp} {ps : List PV} {o : HO} (w : OwnO K S (.lst ps) o) : ∃ vs, o = .lst vs ∧ RepL K S ps vs := by
  cases o with
  | lst vs => exact ⟨vs, rfl, w⟩
  | _ => exact w.elim
/-- what a slot holds, as a list (or a shared value) -/
theorem Abs.lookL {H₀ S₀ : Hp} {M : Addr → Prop} {S H : Hp} {σ : St} {ρ : Env} {i : Nat} {p : PV} (a : Abs K H₀ S₀ M S σ H ρ) (e : slot ρ i = some p) :
    ∃ v, σ[i]? = some (some v) ∧ (Rep K S p v ∨ ∃ b o, v = .ref b ∧ S b = none ∧ H b = some o ∧ OwnO K S p o) := by
  unfold slot at e
  cases e1 : ρ[i]? with
  | none => rw [e1] at e; cases e
  | some s =>
    rw [e1] at e
    cases s with
    | un => cases e
    | sh q =>
      cases e
      obtain ⟨v, h1, h2⟩ := a.sh i _ e1
      exact ⟨v, h1, .inl h2⟩
    | ow q =>
      cases e
      obtain ⟨b, o, h1, h2, h3, h4, h5, h6⟩ := a.own i _ _ e1 rfl
      exact ⟨_, h1, .inr ⟨b, o, rfl, h4, h5, h6⟩⟩
    | io q =>
      cases e
      obtain ⟨b, o, h1, h2, h3, h4, h5, h6⟩ := a.own i _ _ e1 rfl
      exact ⟨_, h1, .inr ⟨b, o, rfl, h4, h5, h6⟩⟩
/-- an item of a slot that is only looked at -/
theorem eo_ixv {i : Nat} {tb : TE} {db : Den} (hb : EOk K mg W tb db) : EOk K mg W (tOp (rIx K) (tVar i) tb) (d2l gIx i db) := by
  intro H₀ S₀ M S σ H ρ Q ab hp
  unfold d2l at hp
  cases e0 : slot ρ i with
  | none => rw [e0] at hp; exact hp.elim
  | some p0 =>
    rw [e0] at hp
    obtain ⟨v, _, hv, _⟩ := ab.look e0
    refine ⟨v, hv, ?_⟩
    refine hb.bind (Rl' := rV K) ab hp fun q ρ1 u S1 H1 _ a1 _ r1 hp => ?_
    cases e1 : slot ρ1 i with
    | none => rw [e1] at hp; exact hp.elim
    | some p =>
      rw [e1] at hp
      obtain ⟨v', hv', h⟩ := a1.lookL e1
      rw [hv] at hv'
      cases hv'
      cases e : gIx p q with
      | none => simp only [e] at hp; exact hp.elim
      | some z =>
        simp only [e] at hp
        rcases h with h | ⟨b, o, rfl, h2, h3, h4⟩
        · exact v2_ix S1 H1 v u p q z Q a1.sub h r1 e fun v' S3 H3 st rz => hp v' S3 H3 (a1.step st) rz
        · cases p with
          | lst ps =>
            obtain ⟨vs, rfl, h5⟩ := own_lst h4
            cases q with
            | int k =>
              cases r1
              obtain ⟨w, h6, h7⟩ := h5.atI (show L2.atI ps k = some z from e)
              exact .inl ⟨_, _, _, _, rfl, rfl, .inl (.inl h3), h6, hp _ S1 H1 a1 h7⟩
            | _ => cases e
          | dic t ks ps => cases e
          | _ => exact h4.elim
/-- a new list cut out of a slot that is only looked at -/
theorem fo_slv {i : Nat} {tl th : TO} {dl dh : DenO} (hl : OOk K mg W tl dl) (hh : OOk K mg W th dh) : FOk K mg W (tSl (rSlL K) (tVar i) tl th) (dSlv gSlL i dl dh) := by
  intro H₀ S₀ M S σ H ρ Q ab hp
  unfold dSlv at hp
  cases e0 : slot ρ i with
  | none => rw [e0] at hp; exact hp.elim
  | some p0 =>
    rw [e0] at hp
    obtain ⟨v, _, hv, _⟩ := ab.look e0
    refine ⟨v, hv, ?_⟩
    refine hl.bind (Rl' := rF K) ab hp fun l ρ2 l' S2 H2 _ a2 s2 r2 hp => hh.bind (Rl' := rF K) a2 hp fun h ρ3 h' S3 H3 _ a3 s3 r3 hp => ?_
    cases r2; cases r3
    cases e1 : slot ρ3 i with
    | none => rw [e1] at hp; exact hp.elim
    | some p =>
      rw [e1] at hp
      obtain ⟨v', hv', hL⟩ := a3.lookL e1
      rw [hv] at hv'
      cases hv'
      cases p with
      | lst ps =>
        have hp : Post K mg W (rF K) H₀ S₀ M σ (.ok (.lst (cutP ps l h)) ρ3) Q := hp
        rcases hL with hL | ⟨b, o, rfl, h2, h3, h4⟩
        · cases hL with
          | lst h1 h2 => exact ⟨_, _, rfl, .inl (.inl (a3.sub _ _ h1)), fun c n => hp _ S3 _ (a3.fresh n (p := .lst _) (o := .lst _) h2.cut).1 (a3.fresh n (p := .lst _) (o := .lst _) h2.cut).2⟩
        · obtain ⟨vs, rfl, h5⟩ := own_lst h4
          exact ⟨_, _, rfl, .inl (.inl h3), fun c n => hp _ S3 _ (a3.fresh n (p := .lst _) (o := .lst _) h5.cut).1 (a3.fresh n (p := .lst _) (o := .lst _) h5.cut).2⟩
      | _ => exact hp.elim
end
/-! ### built-in functions -/
section
variable {K : PySem.W.Frag}
def gLenN : List PV → Option PV
  | [p] => gLen p
  | _ => none
theorem vn_len : VN K (fun xs H Q => ∃ x n, xs = [x] ∧ LenV K x H n ∧ Q (.int n) H) gLenN := by
  intro S H xs ps z Q s rx e k
  unfold gLenN at e
  split at e
  · rename_i p
    cases rx with
    | cons r1 r2 =>
      cases r2
      unfold gLen at e
      split at e
      · cases r1 with
        | lst h1 h2 =>
          cases e
          refine ⟨_, _, rfl, .inl ⟨_, .inl (.inl (s _ _ h1)), rfl⟩, ?_⟩
          rw [← h2.length]
          exact k _ S H (Step.refl s) (.int _)
      · cases r1 with
        | tup h1 h2 =>
          cases e
          refine ⟨_, _, rfl, .inr ⟨_, .inl (.inl (s _ _ h1)), rfl⟩, ?_⟩
          rw [← h2.length]
          exact k _ S H (Step.refl s) (.int _)
      · cases r1 with
        | ktup h1 h2 =>
          cases e
          refine ⟨_, _, rfl, .inr ⟨_, Same.tupK s h1, rfl⟩, ?_⟩
          rw [← h2.length]
          exact k _ S H (Step.refl s) (.int _)
      · cases r1 with
        | klst h1 h2 =>
          cases e
          refine ⟨_, _, rfl, .inl ⟨_, Same.lstK s h1, rfl⟩, ?_⟩
          rw [← h2.length]
          exact k _ S H (Step.refl s) (.int _)
      · split at e
        · rename_i hz
          cases e
          cases r1
          exact ⟨_, _, rfl, ⟨hz, rfl⟩, k _ S H (Step.refl s) (.int _)⟩
        · cases e
      · cases e
  · cases e
theorem len_sc : ∀ p z, gLenN [p] = some z → z.sc = true := by
  intro p z e
  cases p with
  | lst ps => cases e; rfl
  | tup ps => cases e; rfl
  | ktup ps => cases e; rfl
  | klst ps => cases e; rfl
  | str x =>
    have e : (if x.length ≤ sizeLine then some (PV.int x.length) else none) = some z := e
    split at e
    · cases e; rfl
    · cases e
  | _ => cases e
def gAbs : List PV → Option PV
  | [.int i] => some (.int (if i < 0 then -i else i))
  | _ => none
theorem vn_abs : VN K (fun xs H Q => ∃ i, xs = [.int i] ∧ Q (.int (if i < 0 then -i else i)) H) gAbs := by
  intro S H xs ps z Q s rx e k
  unfold gAbs at e
  split at e
  · cases rx with
    | cons r1 r2 =>
      cases r2; cases r1; cases e
      exact ⟨_, rfl, k _ S H (Step.refl s) (.int _)⟩
  · cases e
def gMax2 : List PV → Option PV
  | [.int i, .int j] => some (.int (if j > i then j else i))
  | _ => none
def gMin2 : List PV → Option PV
  | [.int i, .int j] => some (.int (if j < i then j else i))
  | _ => none
theorem vn_max2 : VN K (fun xs H Q => ∃ i j, xs = [.int i, .int j] ∧ Q (.int (if j > i then j else i)) H) gMax2 := by
  intro S H xs ps z Q s rx e k
  unfold gMax2 at e
  split at e
  · cases rx with
    | cons r1 r2 =>
      cases r2 with
      | cons r3 r4 =>
        cases r4; cases r1; cases r3; cases e
        exact ⟨_, _, rfl, k _ S H (Step.refl s) (.int _)⟩
  · cases e
theorem vn_min2 : VN K (fun xs H Q => ∃ i j, xs = [.int i, .int j] ∧ Q (.int (if j < i then j else i)) H) gMin2 := by
  intro S H xs ps z Q s rx e k
  unfold gMin2 at e
  split at e
  · cases rx with
    | cons r1 r2 =>
      cases r2 with
      | cons r3 r4 =>
        cases r4; cases r1; cases r3; cases e
        exact ⟨_, _, rfl, k _ S H (Step.refl s) (.int _)⟩
  · cases e
def gInt : List PV → Option PV
  | [.int i] => some (.int i)
  | [.bl b] => some (.int (if b then 1 else 0))
  | [.str a] => if a.length ≤ 640 then (PySem.intText? a).map .int else none
  | _ => none
def rIntU : List V → Hp → VK → Prop := fun xs H Q => ((∃ i, xs = [.int i] ∧ Q (.int i) H) ∨ ∃ k, xs = [.bl k] ∧ Q (.int (if k then 1 else 0)) H) ∨ ∃ a n, xs = [.str a] ∧ PySem.intText? a = some n ∧ a.length ≤ 640 ∧ Q (.int n) H
theorem CallR.or {X : Cx} {f : Value} {r r' : List V → Hp → VK → Prop} (h : CallR X f r) (h' : CallR X f r') : CallR X f (fun xs H Q => r xs H Q ∨ r' xs H Q) := by
  intro pins s σ H vs us Q I r q
  rcases q with q | q
  · exact h pins s σ H vs us Q I r q
  · exact h' pins s σ H vs us Q I r q
theorem call_intU {X : Cx} : CallR X (.type "int") rIntU := CallR.or call_int1 call_int_str
theorem vn_int : VN K rIntU gInt := by
  intro S H xs ps z Q s rx e k
  unfold gInt at e
  split at e
  · cases rx with
    | cons r1 r2 =>
      cases r2; cases r1; cases e
      exact .inl (.inl ⟨_, rfl, k _ S H (Step.refl s) (.int _)⟩)
  · cases rx with
    | cons r1 r2 =>
      cases r2; cases r1; cases e
      exact .inl (.inr ⟨_, rfl, k _ S H (Step.refl s) (.int _)⟩)
  · cases rx with
    | cons r1 r2 =>
      cases r2; cases r1
      rename_i a
      split at e
      · rename_i hz
        cases h : PySem.intText? a with
        | none => rw [h] at e; cases e
        | some n =>
          rw [h] at e
          cases e
          exact .inr ⟨_, _, rfl, h, hz, k _ S H (Step.refl s) (.int _)⟩
      · cases e
  · cases e
def gSumN : List PV → Option PV
  | [.lst ps] => (ints? ps).map fun ns => .int ns.sum
  | _ => none
theorem vn_sum : VN K (rSum K) gSumN := by
  intro S H xs ps z Q s rx e k
  unfold gSumN at e
  split at e
  · rename_i ps
    cases rx with
    | cons r1 r2 =>
      cases r2
      cases r1 with
      | lst h1 h2 =>
        cases h : ints? ps with
        | none => rw [h] at e; cases e
        | some ns =>
          rw [h] at e
          cases e
          rw [h2.ints h] at h1
          exact ⟨_, _, rfl, .inl (.inl (s _ _ h1)), k _ S H (Step.refl s) (.int _)⟩
  · cases e
/-! ### what changes a list -/
def gAppend : PV → List PV → Option (PV × PV)
  | .lst ps, [p] => if ps.length < sizeLine then some (.lst (ps ++ [p]), .non) else none
  | _, _ => none
theorem mu_append : MutOk K rAppend gAppend := by
  intro S H b o p q z ps vs Q s sb hb w r e k
  unfold gAppend at e
  split at e
  · rename_i xs p1
    split at e
    · rename_i hz
      cases e
      obtain ⟨us, rfl, h5⟩ := own_lst w
      cases r with
      | cons r1 r2 =>
        cases r2
        exact ⟨_, _, _, rfl, rfl, hb, by rw [← h5.length]; exact hz, k _ _ (h5.append (.cons r1 .nil)) .non⟩
    · cases e
  · cases e
def gPop : PV → List PV → Option (PV × PV)
  | .lst ps, [] => (ps[ps.length - 1]?).map fun p => (.lst ps.dropLast, p)
  | _, _ => none
theorem mu_pop : MutOk K rPop gPop := by
  intro S H b o p q z ps vs Q s sb hb w r e k
  unfold gPop at e
  split at e
  · rename_i xs
    cases h : xs[xs.length - 1]? with
    | none => rw [h] at e; cases e
    | some p1 =>
      rw [h] at e
      cases e
      obtain ⟨us, rfl, h5⟩ := own_lst w
      cases r
      obtain ⟨v, h6, h7⟩ := h5.get h
      rw [h5.length] at h6
      exact ⟨_, _, _, rfl, rfl, hb, h6, k _ _ h5.dropLast h7⟩
  · cases e
def gPopAt : PV → List PV → Option (PV × PV)
  | .lst ps, [.int i] => if decide (-(2 ^ 63) ≤ i) && decide (i < 2 ^ 63) then (seqIndex? i ps.length).bind fun j => (ps[j]?).map fun p => (.lst (ps.eraseIdx j), p) else none
  | _, _ => none
theorem mu_popAt : MutOk K rPopAt gPopAt := by
  intro S H b o p q z ps vs Q s sb hb w r e k
  unfold gPopAt at e
  split at e
  · rename_i xs i
    split at e
    · rename_i hz
      simp only [Bool.and_eq_true, decide_eq_true_eq] at hz
      cases hj : seqIndex? i xs.length with
      | none => rw [hj] at e; cases e
      | some j =>
        rw [hj] at e
        have e : (xs[j]?).map (fun p => (PV.lst (xs.eraseIdx j), p)) = some (q, z) := e
        cases h : xs[j]? with
        | none => rw [h] at e; cases e
        | some p1 =>
          rw [h] at e
          cases e
          obtain ⟨us, rfl, h5⟩ := own_lst w
          cases r with
          | cons r1 r2 =>
            cases r2; cases r1
            obtain ⟨v, h6, h7⟩ := h5.get h
            rw [h5.length] at hj
            exact ⟨_, _, _, _, _, rfl, rfl, hb, hz.1, hz.2, hj, h6, k _ _ (h5.eraseIdx j) h7⟩
    · cases e
  · cases e
def gReverse : PV → List PV → Option (PV × PV)
  | .lst ps, [] => some (.lst ps.reverse, .non)
  | _, _ => none
theorem mu_reverse : MutOk K rReverse gReverse := by
  intro S H b o p q z ps vs Q s sb hb w r e k
  unfold gReverse at e
  split at e
  · cases e
    obtain ⟨us, rfl, h5⟩ := own_lst w
    cases r
    exact ⟨_, _, rfl, rfl, hb, k _ _ h5.reverse .non⟩
  · cases e
def gExtend : PV → List PV → Option (PV × PV)
  | .lst ps, [.lst qs] => if ps.length + qs.length ≤ sizeLine then some (.lst (ps ++ qs), .non) else none
  | _, _ => none
theorem mu_extend : MutOk K rExtend gExtend := by
  intro S H b o p q z ps vs Q s sb hb w r e k
  unfold gExtend at e
  split at e
  · split at e
    · rename_i hz
      cases e
      obtain ⟨us, rfl, h5⟩ := own_lst w
      cases r with
      | cons r1 r2 =>
        cases r2
        cases r1 with
        | lst h1 h2 =>
          refine ⟨_, _, _, _, rfl, rfl, hb, s _ _ h1, ?_, k _ _ (h5.append h2) .non⟩
          rw [← h5.length, ← h2.length]
          exact hz
    · cases e
  · cases e
def gSetL : PV → PV → PV → Option PV
  | .lst ps, .int i, e => (ixN ps.length i).map fun j => .lst (ps.set j e)
  | _, _, _ => none
theorem st_list : SetOk K rSetL gSetL := by
  intro S H b o p i e q x y Q s sb hb w rx ry e1 k
  cases p with
  | lst ps =>
    cases i with
    | int n =>
      have e1 : (ixN ps.length n).map (fun j => PV.lst (ps.set j e)) = some q := e1
      cases hj : ixN ps.length n with
      | none => rw [hj] at e1; cases e1
      | some j =>
        rw [hj] at e1
        cases e1
        obtain ⟨us, rfl, h5⟩ := own_lst w
        cases rx
        rw [h5.length] at hj
        exact ⟨_, _, _, _, rfl, rfl, hb, hj, k _ (h5.set ry j)⟩
    | _ => cases e1
  | _ => cases i <;> cases e1
end
end PL

set_option Elab.async false
set_option linter.all false
set_option maxRecDepth 100000
set_option maxHeartbeats 4000000
namespace PL
open PySem PySem.Spec L2
set_option autoImplicit false

/-! ### pieces of syntax and what they are worth -/
def canon {α β : Type} (K : PySem.W.Frag) (mg : Str → Option Value) (W : WX) (Rl : RelT α β) (d : Env → Rs α) : St → Hp → (β → Hp → Prop) → Prop := fun σ H Q =>
  ∃ H₀ S₀ M S ρ, Abs K H₀ S₀ M S σ H ρ ∧ Post K mg W Rl H₀ S₀ M σ (d ρ) Q
theorem canon_ok {α β : Type} {K : PySem.W.Frag} {mg : Str → Option Value} {W : WX} {Rl : RelT α β} {d : Env → Rs α} : XOk K mg W Rl (canon K mg W Rl d) d := fun H₀ S₀ M S σ H ρ Q ab hp => ⟨H₀, S₀, M, S, ρ, ab, hp⟩
theorem canon_to {α β : Type} {K : PySem.W.Frag} {mg : Str → Option Value} {W : WX} {Rl : RelT α β} {d : Env → Rs α} {t : St → Hp → (β → Hp → Prop) → Prop} (h : XOk K mg W Rl t d) {σ : St} {H : Hp} {Q : β → Hp → Prop} (q : canon K mg W Rl d σ H Q) : t σ H Q := by
  obtain ⟨H₀, S₀, M, S, ρ, ab, hp⟩ := q
  exact h H₀ S₀ M S σ H ρ Q ab hp
def canonS (K : PySem.W.Frag) (mg : Str → Option Value) (W : WX) (fr : Bool) (d : DenS) : TS := fun D σ H => ∃ H₀ S₀ M S ρ, Abs K H₀ S₀ M S σ H ρ ∧ SPost K mg W fr H₀ S₀ M (d ρ) D
theorem canonS_ok {K : PySem.W.Frag} {mg : Str → Option Value} {W : WX} {fr : Bool} {d : DenS} : SOk K mg W fr (canonS K mg W fr d) d := fun H₀ S₀ M S σ H ρ D ab hp => ⟨H₀, S₀, M, S, ρ, ab, hp⟩
theorem canonS_to {K : PySem.W.Frag} {mg : Str → Option Value} {W : WX} {fr : Bool} {d : DenS} {t : TS} (h : SOk K mg W fr t d) {D : Ends} {σ : St} {H : Hp} (q : canonS K mg W fr d D σ H) : t D σ H := by
  obtain ⟨H₀, S₀, M, S, ρ, ab, hp⟩ := q
  exact h H₀ S₀ M S σ H ρ D ab hp
/-- an expression, shared; a fresh object; a test; and, or; arguments; a part of a slice; what is walked; statements -/
abbrev DE (X : Cx) (W : WX) (e : Expr) (d : Den) : Prop := PE X e (canon X.K X.mg W (rV X.K) d)
abbrev DF (X : Cx) (W : WX) (e : Expr) (d : Den) : Prop := PE X e (canon X.K X.mg W (rF X.K) d)
abbrev DT (X : Cx) (W : WX) (e : Expr) (d : DenB) : Prop := PT X e (canon X.K X.mg W rB d)
abbrev DW (X : Cx) (W : WX) (e : Expr) (d : DenB) : Prop := PW X e (canon X.K X.mg W rB d)
abbrev DA (X : Cx) (W : WX) (es : List Expr) (d : DenL) : Prop := PA X es (canon X.K X.mg W (rL X.K) d)
abbrev DO (X : Cx) (W : WX) (e : Option Expr) (d : DenO) : Prop := PO X e (canon X.K X.mg W rO d)
abbrev DI (X : Cx) (W : WX) (tg e : Expr) (d : DenL) : Prop := PI X tg e (canon X.K X.mg W (rIt X.K) d)
abbrev DTs (X : Cx) (W : WX) (es : List Expr) (d : DenB) : Prop := PTs X es (canon X.K X.mg W rB d)
abbrev DS (X : Cx) (W : WX) (fr : Bool) (st : Stmt) (d : DenS) : Prop := PS X st (canonS X.K X.mg W fr d)
abbrev DSs (X : Cx) (W : WX) (fr : Bool) (st : List Stmt) (d : DenS) : Prop := PSs X st (canonS X.K X.mg W fr d)
section
variable {X : Cx} {W : WX} {fr : Bool}
theorem DE.of {e : Expr} {t : TE} {d : Den} (h : PE X e t) (k : EOk X.K X.mg W t d) : DE X W e d := ⟨fun pins s σ H Q I q => h.run pins s σ H Q I (canon_to k q)⟩
theorem DF.of {e : Expr} {t : TE} {d : Den} (h : PE X e t) (k : FOk X.K X.mg W t d) : DF X W e d := ⟨fun pins s σ H Q I q => h.run pins s σ H Q I (canon_to k q)⟩
theorem DT.of {e : Expr} {t : TT} {d : DenB} (h : PT X e t) (k : TOk X.K X.mg W t d) : DT X W e d := ⟨fun pins s σ H Q I q => h.run pins s σ H Q I (canon_to k q)⟩
theorem DW.of {e : Expr} {t : TT} {d : DenB} (h : PW X e t) (k : TOk X.K X.mg W t d) : DW X W e d := ⟨fun wh pins s σ H Q I q => h.run wh pins s σ H Q I (canon_to k q)⟩
theorem DA.of {es : List Expr} {t : TA} {d : DenL} (h : PA X es t) (k : AOk X.K X.mg W t d) : DA X W es d := ⟨fun pos pins s σ H Q I q => h.run pos pins s σ H Q I (canon_to k q)⟩
theorem DO.of {e : Option Expr} {t : TO} {d : DenO} (h : PO X e t) (k : OOk X.K X.mg W t d) : DO X W e d := ⟨fun pins s σ H Q I q => h.run pins s σ H Q I (canon_to k q)⟩
theorem DI.of {tg e : Expr} {t : TI} {d : DenL} (h : PI X tg e t) (k : IOk X.K X.mg W t d) : DI X W tg e d := ⟨fun pins s σ H R I q => h.run pins s σ H R I (canon_to k q)⟩
theorem DTs.of {es : List Expr} {t : TT} {d : DenB} (h : PTs X es t) (k : TOk X.K X.mg W t d) : DTs X W es d := ⟨fun pins s σ H Q I q => h.run pins s σ H Q I (canon_to k q)⟩
theorem DS.of {st : Stmt} {t : TS} {d : DenS} (h : PS X st t) (k : SOk X.K X.mg W fr t d) : DS X W fr st d := ⟨fun pins s σ H D I q => h.run pins s σ H D I (canonS_to k q)⟩
theorem DSs.of {st : List Stmt} {t : TS} {d : DenS} (h : PSs X st t) (k : SOk X.K X.mg W fr t d) : DSs X W fr st d := ⟨fun pins s σ H D I q => h.run pins s σ H D I (canonS_to k q)⟩
theorem DF.sh {e : Expr} {d : Den} (h : DF X W e d) : DE X W e d := DE.of h canon_ok.shared
end

/-- what a body's context grants -/
structure Ctx (X : Cx) (W : WX) (k : Nat) : Prop where
  calm : X.calm = true
  nd : X.N.Nodup
  room : Room k X.A
  tk : Takes X W
theorem Ctx.blk {X : Cx} {W : WX} {k : Nat} (c : Ctx X W k) {s : Shared} {H : Hp} {scope : Scope} {env : PySem.Env} {fp : List Addr} : Ctx (X.blk s H scope env fp) (fun _ _ _ _ => False) k := ⟨c.calm, c.nd, c.room, takes0⟩
theorem Ctx.hu {X : Cx} {W : WX} {k : Nat} (c : Ctx X W k) : X.A.units + 64 < cLine := c.room.units
theorem Ctx.hu1 {X : Cx} {W : WX} {k : Nat} (c : Ctx X W k) : X.A.units + 65 < cLine := by have := c.room.un; omega

/-- the built-in names are the built-ins -/
structure Bi (mg : Str → Option Value) : Prop where
  len : mg "len" = none
  abs : mg "abs" = none
  max : mg "max" = none
  min : mg "min" = none
  int : mg "int" = none
  sum : mg "sum" = none
  range : mg "range" = none
  list : mg "list" = none
  tuple : mg "tuple" = none
  sorted : mg "sorted" = none
  set : mg "set" = none
  zip : mg "zip" = none
  enumerate : mg "enumerate" = none
  reversed : mg "reversed" = none
  isinstance : mg "isinstance" = none
  str : mg "str" = none
  bool : mg "bool" = none
  dict : mg "dict" = none
  any : mg "any" = none
  all : mg "all" = none

section
variable {X : Cx} {W : WX} {fr : Bool} {k : Nat} {pos p p2 p3 apos cpos np : Pos} {e a b : Expr} {es rest : List Expr} {da db dc : Den} {dt du : DenB} {dl : DenL} {x : Str}
/-! ### expressions -/
theorem de_var (i : Nat) (hN : X.N[i]? = some x := by rfl) (hv : Vis X.env.scope x := by first | exact Or.inl rfl | exact Or.inr (Or.inl rfl) | exact Or.inr (Or.inr rfl)) (hd : (x == ("__debug__" : Str)) = false := by decide)
    (hcd : (x == ("__classdict__" : Str)) = false := by decide) : DE X W (.Name x pos) (dVar i) := DE.of (pe_var hN hv hd hcd) eo_var
theorem de_int {i : Int} {j : Nat} : DE X W (.Constant (.int i) j pos) (dC (.int i)) := DE.of pe_int (eo_c fun _ => .int i)
theorem de_bl {i : Bool} {j : Nat} : DE X W (.Constant (.bool i) j pos) (dC (.bl i)) := DE.of pe_bl (eo_c fun _ => .bl i)
theorem de_non {j : Nat} : DE X W (.Constant .none j pos) (dC .non) := DE.of pe_non (eo_c fun _ => .non)
theorem de_str {i : Str} {j : Nat} : DE X W (.Constant (.str i) j pos) (dC (.str i)) := DE.of pe_str (eo_c fun _ => .str i)
/-- a constant of the module -/
theorem de_glob {v : V} {q : PV} {u : Value} (hm : X.mg x = some u) (r : RelV v u) (h : ∀ S, Rep X.K S q v) (hg : Gl X x := by rfl) (hd : (x == ("__debug__" : Str)) = false := by decide) : DE X W (.Name x pos) (dC q) := DE.of (pe_glob hg hm r hd) (eo_c h)
theorem de_op {op : Operator} {r : R2} {g : PV → PV → Option PV} (ho : OpR X (binaryOp op) r) (hv : V2 X.K r g) (ha : DE X W a da) (hb : DE X W b db) : DE X W (.BinOp a op b pos) (d2 g da db) := DE.of (pe_op ho ha hb) (eo_2 canon_ok canon_ok hv)
theorem df_op {op : Operator} {r : R2} {g : PV → PV → Option PV} (ho : OpR X (binaryOp op) r) (hv : V2F X.K r g) (ha : DE X W a da) (hb : DE X W b db) : DF X W (.BinOp a op b pos) (d2 g da db) := DF.of (pe_op ho ha hb) (fo_2 canon_ok canon_ok hv)
abbrev dAdd := d2 gAdd
abbrev dSub := d2 gSub
abbrev dMul := d2 gMul
abbrev dFdiv := d2 gFdiv
abbrev dMod := d2 gMod
abbrev dPow := d2 gPow
abbrev dNeg := d1 gNeg
theorem de_add (ha : DE X W a da) (hb : DE X W b db) : DE X W (.BinOp a .Add b pos) (dAdd da db) := de_op op_addU v2_add ha hb
theorem de_sub (ha : DE X W a da) (hb : DE X W b db) : DE X W (.BinOp a .Sub b pos) (dSub da db) := de_op op_sub v2_sub ha hb
theorem de_mul (ha : DE X W a da) (hb : DE X W b db) : DE X W (.BinOp a .Mult b pos) (dMul da db) := de_op op_mulU v2_mul ha hb
theorem de_fdiv (ha : DE X W a da) (hb : DE X W b db) : DE X W (.BinOp a .FloorDiv b pos) (dFdiv da db) := de_op op_fdiv v2_fdiv ha hb
theorem de_mod (ha : DE X W a da) (hb : DE X W b db) : DE X W (.BinOp a .Mod b pos) (dMod da db) := de_op op_mod v2_mod ha hb
theorem de_pow (ha : DE X W a da) (hb : DE X W b db) : DE X W (.BinOp a .Pow b pos) (dPow da db) := de_op op_pow v2_pow ha hb
theorem df_cat (ha : DE X W a da) (hb : DE X W b db) : DF X W (.BinOp a .Add b pos) (d2 gCat da db) := df_op op_cat v2_cat ha hb
theorem df_rep (ha : DE X W a da) (hb : DE X W b db) : DF X W (.BinOp a .Mult b pos) (d2 gRep da db) := df_op op_rep v2_rep ha hb
theorem de_neg (ha : DE X W a da) : DE X W (.UnaryOp .USub a pos) (dNeg da) := DE.of (pe_un un_neg ha) (eo_1 canon_ok v1_neg)
/-! comparisons: by the operator's rule; as values and as tests -/
structure CmpR (X : Cx) (op : CmpOp) (r : R2) (g : PV → PV → Option PV) : Prop where
  op : OpR X (compareOp op) r
  v : V2 X.K r g
  sc : ∀ p q z, g p q = some z → z.sc = true
theorem sc_cmp {f : Int → Int → Bool} : ∀ p q z, gCmpI f p q = some z → z.sc = true := by
  intro p q z e
  unfold gCmpI at e
  split at e
  · cases e; rfl
  · cases e
theorem cr_lt : CmpR X .Lt (rI0 fun i j => .bl (decide (i < j))) gLt := ⟨op_lt, v2_cmp, sc_cmp⟩
theorem cr_le : CmpR X .LtE (rI0 fun i j => .bl (decide (i ≤ j))) gLe := ⟨op_le, v2_cmp, sc_cmp⟩
theorem cr_gt : CmpR X .Gt (rI0 fun i j => .bl (decide (j < i))) gGt := ⟨op_gt, v2_cmp, sc_cmp⟩
theorem cr_ge : CmpR X .GtE (rI0 fun i j => .bl (decide (j ≤ i))) gGe := ⟨op_ge, v2_cmp, sc_cmp⟩
theorem cr_eq (c : Ctx X W k) : CmpR X .Eq (rEqD X.K) gEq := ⟨op_eqD c.hu, v2_eq, by
  intro p q z e
  unfold gEq at e
  split at e
  · cases e; rfl
  · cases e⟩
theorem cr_ne (c : Ctx X W k) : CmpR X .NotEq (rNeD X.K) gNe := ⟨op_neD c.hu, v2_ne, by
  intro p q z e
  unfold gNe at e
  split at e
  · cases e; rfl
  · cases e⟩
theorem gIn_sc {neg : Bool} : ∀ p q z, gIn neg p q = some z → z.sc = true := by
  intro p q z e
  unfold gIn at e
  split at e
  · rename_i x y
    cases h : sgn1 x with
    | none => rw [h] at e; cases e
    | some c => rw [h] at e; cases e; rfl
  · split at e
    · cases e; rfl
    · cases e
  · cases e
theorem cr_in (c : Ctx X W k) : CmpR X .In (rInU X.K) (gIn false) := ⟨OpR.or op_in_sign (op_inD c.hu1), v2_in, gIn_sc⟩
theorem cr_notIn (c : Ctx X W k) : CmpR X .NotIn (rNotInU X.K) (gIn true) := ⟨OpR.or op_notIn_sign (op_notInD c.hu1), v2_notIn, gIn_sc⟩
theorem gIsN_sc {neg : Bool} : ∀ p q z, gIsN neg p q = some z → z.sc = true := by
  intro p q z e
  cases q <;> cases p <;> simp [gIsN] at e <;> subst e <;> rfl
theorem cr_is : CmpR X .Is (fun x y H Q => y = .non ∧ Q (.bl (decide (x = .non))) H) (gIsN false) := ⟨op_isN, v2_isN, gIsN_sc⟩
theorem cr_isNot : CmpR X .IsNot (fun x y H Q => y = .non ∧ Q (.bl (!decide (x = .non))) H) (gIsN true) := ⟨op_notN, v2_notN, gIsN_sc⟩
section
variable {op op' : CmpOp} {r r' : R2} {g g' : PV → PV → Option PV}
theorem de_cmp (h : CmpR X op r g) (ha : DE X W a da) (hb : DE X W b db) (hm : behindInMarks op b = false := by rfl) : DE X W (.Compare a [op] [b] pos) (d2 g da db) := DE.of (pe_cmpR h.op ha hb hm) (eo_2 canon_ok canon_ok h.v)
theorem dt_cmp (h : CmpR X op r g) (ha : DE X W a da) (hb : DE X W b db) (hm : behindInMarks op b = false := by rfl) : DT X W (.Compare a [op] [b] pos) (bVal (d2 g da db)) := DT.of (pt_cmpR h.op ha hb hm) (to_val (eo_2 canon_ok canon_ok h.v))
theorem de_cmpl (h : CmpR X op r g) (i : Nat) (ha : PE X (.Name x p) (tVar i)) (hb : DE X W b db) (hm : behindInMarks op b = false := by rfl) : DE X W (.Compare (.Name x p) [op] [b] pos) (d2l g i db) := DE.of (pe_cmpR h.op ha hb hm) (eo_2l canon_ok h.v h.sc)
theorem dt_cmpl (h : CmpR X op r g) (i : Nat) (ha : PE X (.Name x p) (tVar i)) (hb : DE X W b db) (hm : behindInMarks op b = false := by rfl) : DT X W (.Compare (.Name x p) [op] [b] pos) (bVal (d2l g i db)) := DT.of (pt_cmpR h.op ha hb hm) (to_val (eo_2l canon_ok h.v h.sc))
theorem de_cmpr (h : CmpR X op r g) (i : Nat) (ha : DE X W a da) (hb : PE X (.Name x p) (tVar i)) (hm : behindInMarks op (.Name x p) = false := by rfl) : DE X W (.Compare a [op] [.Name x p] pos) (d2r g da i) := DE.of (pe_cmpR h.op ha hb hm) (eo_2r canon_ok h.v h.sc)
theorem dt_cmpr (h : CmpR X op r g) (i : Nat) (ha : DE X W a da) (hb : PE X (.Name x p) (tVar i)) (hm : behindInMarks op (.Name x p) = false := by rfl) : DT X W (.Compare a [op] [.Name x p] pos) (bVal (d2r g da i)) := DT.of (pt_cmpR h.op ha hb hm) (to_val (eo_2r canon_ok h.v h.sc))
/-- a op b op' c -/
def dChain (g g' : PV → PV → Option PV) (da db dc : Den) : Den := fun ρ => (da ρ).bind fun p ρ1 => (db ρ1).bind fun q ρ2 => match g p q with
  | some (.bl true) => (dc ρ2).bind fun r ρ3 => opt (g' q r) ρ3
  | some (.bl false) => .ok (.bl false) ρ2
  | _ => .bad
theorem eo_chain {K : PySem.W.Frag} {mg : Str → Option Value} {ta tb tc : TE} (hv : V2 K r g) (hv' : V2 K r' g') (ha : EOk K mg W ta da) (hb : EOk K mg W tb db) (hc : EOk K mg W tc dc) : EOk K mg W (tChain r r' ta tb tc) (dChain g g' da db dc) := by
  intro H₀ S₀ M S σ H ρ Q ab hp
  refine ha.bind (Rl' := rV K) ab hp fun p ρ1 v S1 H1 _ a1 _ r1 hp => ?_
  refine hb.bind (Rl' := rV K) a1 hp fun q ρ2 u S2 H2 _ a2 s2 r2 hp => ?_
  cases e : g p q with
  | none => simp only [e] at hp; exact hp.elim
  | some z =>
    cases z with
    | bl t =>
      refine hv S2 H2 v u p q _ _ a2.sub (r1.up s2) r2 e fun v' S3 H3 st rz => ?_
      cases rz
      cases t with
      | false =>
        simp only [e] at hp
        refine ⟨false, rfl, ?_⟩
        rw [if_neg Bool.false_ne_true]
        exact hp _ S3 H3 (a2.step st) (.bl false)
      | true =>
        simp only [e] at hp
        refine ⟨true, rfl, ?_⟩
        rw [if_pos rfl]
        refine hc.bind (Rl' := rV K) (a2.step st) hp fun c ρ3 w S4 H4 _ a4 s4 r4 hp => ?_
        cases e2 : g' q c with
        | none => rw [e2] at hp; exact hp.elim
        | some z =>
          rw [e2] at hp
          exact hv' S4 H4 u w q c z Q a4.sub (r2.up (st.s.trans s4)) r4 e2 fun v5 S5 H5 st5 rz => hp v5 S5 H5 (a4.step st5) rz
    | _ => simp only [e] at hp; exact hp.elim
theorem de_chain {c : Expr} (h : CmpR X op r g) (h' : CmpR X op' r' g') (ha : DE X W a da) (hb : DE X W b db) (hc : DE X W c dc) (hm : lastMarks [op, op'] [b, c] = false := by with_unfolding_all rfl) : DE X W (.Compare a [op, op'] [b, c] pos) (dChain g g' da db dc) :=
  DE.of (pe_chain h.op h'.op ha hb hc hm) (eo_chain h.v h'.v canon_ok canon_ok canon_ok)
theorem dt_chain {c : Expr} (h : CmpR X op r g) (h' : CmpR X op' r' g') (ha : DE X W a da) (hb : DE X W b db) (hc : DE X W c dc) (hm : lastMarks [op, op'] [b, c] = false := by with_unfolding_all rfl) : DT X W (.Compare a [op, op'] [b, c] pos) (bVal (dChain g g' da db dc)) :=
  DT.of (pt_chain h.op h'.op ha hb hc hm) (to_val (eo_chain h.v h'.v canon_ok canon_ok canon_ok))
end
/-! truth, and, or, not, if -/
theorem dt_tru (ha : DE X W a da) (he : ∀ whole, isTrue a X.env whole = (do let v ← whole; standAt a.pos; holding [v] (truthy v)) := by intro _; rfl) : DT X W a (bTru da) := DT.of (pt_truth ha he) (to_tru canon_ok vt_truth)
theorem dt_truv (i : Nat) (ha : PE X (.Name x p) (tVar i)) : DT X W (.Name x p) (bTruV i) := DT.of (pt_truth ha fun _ => rfl) (to_truv vt_truth)
theorem dt_w (h : DW X W a dt) : DT X W a dt := h.pt
theorem dw_and1 (h : DT X W a dt) : DW X W (.BoolOp .And [a] pos) dt := pw_and1 h
theorem dw_or1 (h : DT X W a dt) : DW X W (.BoolOp .Or [a] pos) dt := pw_or1 h
theorem dw_and (h : DT X W a dt) (h2 : DW X W (.BoolOp .And (b :: rest) pos) du) : DW X W (.BoolOp .And (a :: b :: rest) pos) (bAnd dt du) := DW.of (pw_and h h2) (to_and canon_ok canon_ok)
theorem dw_or (h : DT X W a dt) (h2 : DW X W (.BoolOp .Or (b :: rest) pos) du) : DW X W (.BoolOp .Or (a :: b :: rest) pos) (bOr dt du) := DW.of (pw_or h h2) (to_or canon_ok canon_ok)
theorem dt_not (h : DT X W a dt) : DT X W (.UnaryOp .Not a pos) (bNot dt) := DT.of (pt_not h) (to_not canon_ok)
/-- by truth, as values -/
def dAndT (da db : Den) : Den := fun ρ => (da ρ).bind fun p ρ1 => match truth p with
  | none => .bad
  | some b => if b = true then db ρ1 else .ok p ρ1
def dOrT (da db : Den) : Den := fun ρ => (da ρ).bind fun p ρ1 => match truth p with
  | none => .bad
  | some b => if b = true then .ok p ρ1 else db ρ1
def dNotT (da : Den) : Den := fun ρ => (da ρ).bind fun p ρ1 => opt ((truth p).map fun b => .bl (!b)) ρ1
theorem de_oneA (h : DE X W a da) : DE X W (.BoolOp .And [a] pos) da := pe_one h
theorem de_oneO (h : DE X W a da) : DE X W (.BoolOp .Or [a] pos) da := pe_one h
theorem de_and (h : DE X W a da) (h2 : DE X W (.BoolOp .And (b :: rest) pos) db) : DE X W (.BoolOp .And (a :: b :: rest) pos) (dAndT da db) := DE.of (pe_andT h h2) fun H₀ S₀ M S σ H ρ Q ab hp =>
  canon_ok.bind (Rl := rV X.K) (Rl' := rV X.K) ab hp fun p ρ1 v S1 H1 _ a1 _ r1 hp => by
    cases e : truth p with
    | none => simp only [e] at hp; exact hp.elim
    | some t =>
      simp only [e] at hp
      obtain ⟨z, h3, h4⟩ := vt_truth S1 H1 v p t (fun b' H' => b' = t ∧ H' = H1) a1.sub r1 e ⟨rfl, rfl⟩
      obtain ⟨h4, _⟩ := h4
      subst h4
      refine ⟨z, h3, ?_⟩
      cases z with
      | true => exact ⟨H₀, S₀, M, S1, ρ1, a1, hp⟩
      | false => exact hp v S1 H1 a1 r1
theorem de_or (h : DE X W a da) (h2 : DE X W (.BoolOp .Or (b :: rest) pos) db) : DE X W (.BoolOp .Or (a :: b :: rest) pos) (dOrT da db) := DE.of (pe_orT h h2) fun H₀ S₀ M S σ H ρ Q ab hp =>
  canon_ok.bind (Rl := rV X.K) (Rl' := rV X.K) ab hp fun p ρ1 v S1 H1 _ a1 _ r1 hp => by
    cases e : truth p with
    | none => simp only [e] at hp; exact hp.elim
    | some t =>
      simp only [e] at hp
      obtain ⟨z, h3, h4⟩ := vt_truth S1 H1 v p t (fun b' H' => b' = t ∧ H' = H1) a1.sub r1 e ⟨rfl, rfl⟩
      obtain ⟨h4, _⟩ := h4
      subst h4
      refine ⟨z, h3, ?_⟩
      cases z with
      | false => exact ⟨H₀, S₀, M, S1, ρ1, a1, hp⟩
      | true => exact hp v S1 H1 a1 r1
theorem de_not (h : DE X W a da) : DE X W (.UnaryOp .Not a pos) (dNotT da) := DE.of (pe_notT h) fun H₀ S₀ M S σ H ρ Q ab hp =>
  canon_ok.bind (Rl := rV X.K) (Rl' := rV X.K) ab hp fun p ρ1 v S1 H1 _ a1 _ r1 hp => by
    cases e : truth p with
    | none => rw [e] at hp; exact hp.elim
    | some t =>
      rw [e] at hp
      obtain ⟨z, h3, h4⟩ := vt_truth S1 H1 v p t (fun b' H' => b' = t ∧ H' = H1) a1.sub r1 e ⟨rfl, rfl⟩
      obtain ⟨h4, _⟩ := h4
      subst h4
      exact ⟨z, h3, hp _ S1 H1 a1 (.bl _)⟩
theorem de_if {c : Expr} (hc : DT X W c dt) (ha : DE X W a da) (hb : DE X W b db) : DE X W (.IfExp c a b pos) (dIf dt da db) := DE.of (pe_ifExp hc ha hb) (eo_if canon_ok canon_ok canon_ok)
/-! arguments, displays -/
theorem da_nil : DA X W [] dNil := DA.of pa_nil ao_nil
theorem da_cons (ha : DE X W e da) (hr : DA X W es dl) (hs : starEach (e :: es) X.env = (false, eval e X.env) :: starEach es X.env := by rfl) : DA X W (e :: es) (dCons da dl) := DA.of (pa_cons ha hr hs) (ao_cons canon_ok canon_ok)
def dLst (dl : DenL) : Den := fun ρ => (dl ρ).bind fun ps ρ1 => if ps.length ≤ sizeLine then .ok (.lst ps) ρ1 else .bad
def dTup (dl : DenL) : Den := fun ρ => (dl ρ).bind fun ps ρ1 => if ps.length ≤ sizeLine then .ok (.tup ps) ρ1 else .bad
theorem df_lst (h : DA X W es dl) : DF X W (.List es pos) (dLst dl) := DF.of (pe_lst h) fun H₀ S₀ M S σ H ρ Q ab hp =>
  canon_ok.bind (Rl' := rF X.K) ab hp fun ps ρ1 vs S1 H1 _ a1 _ r1 hp => by
    split at hp
    · rename_i hz
      have r1 : RepL X.K S1 ps vs := r1
      refine ⟨by rw [← r1.length]; exact hz, fun c n => hp _ S1 _ (a1.fresh n (p := .lst ps) (o := .lst vs) r1).1 (a1.fresh n (p := .lst ps) (o := .lst vs) r1).2⟩
    · exact hp.elim
theorem de_tup {j : Nat} (h : DA X W es dl) : DE X W (.Tuple es j pos) (dTup dl) := DE.of (pe_tup h) fun H₀ S₀ M S σ H ρ Q ab hp =>
  canon_ok.bind (Rl' := rV X.K) ab hp fun ps ρ1 vs S1 H1 _ a1 _ r1 hp => by
    split at hp
    · rename_i hz
      have r1 : RepL X.K S1 ps vs := r1
      refine ⟨by rw [← r1.length]; exact hz, fun c n => hp _ (upd S1 c (.tup vs)) _ (a1.step (Step.new1 a1.sub n)) (.tup upd_same (r1.up (same_upd (Same.free a1.sub n))))⟩
    · exact hp.elim
/-! subscripts and slices -/
theorem de_ix (ha : DE X W a da) (hb : DE X W b db) (hs : PlainIx b := by intro _ _; rfl) : DE X W (.Subscript a b pos) (d2 gIx da db) := DE.of (pe_ix ix_seq ha hb hs) (eo_2 canon_ok canon_ok v2_ix)
theorem de_ixv (i : Nat) (ha : PE X (.Name x p) (tVar i)) (hb : DE X W b db) (hs : PlainIx b := by intro _ _; rfl) : DE X W (.Subscript (.Name x p) b pos) (d2l gIx i db) := DE.of (pe_ix ix_seq ha hb hs) (eo_ixv canon_ok)
theorem do_none : DO X W none oNone := DO.of po_none oo_none
theorem do_some (h : DE X W e da) : DO X W (some e) (oSome da) := DO.of (po_some h) (oo_some canon_ok)
theorem de_sl {lo hi : Option Expr} {dlo dhi : DenO} (ha : DE X W a da) (hl : DO X W lo dlo) (hh : DO X W hi dhi) : DE X W (.Subscript a (.Slice lo hi none p2) pos) (dSl gSl da dlo dhi) := DE.of (pe_slice sl_U ha hl hh) (eo_sl canon_ok canon_ok canon_ok vs_U)
theorem df_sl {lo hi : Option Expr} {dlo dhi : DenO} (ha : DE X W a da) (hl : DO X W lo dlo) (hh : DO X W hi dhi) : DF X W (.Subscript a (.Slice lo hi none p2) pos) (dSl gSlL da dlo dhi) := DF.of (pe_slice sl_list ha hl hh) (fo_sl canon_ok canon_ok canon_ok vsf_list)
theorem df_slv {lo hi : Option Expr} {dlo dhi : DenO} (i : Nat) (ha : PE X (.Name x p) (tVar i)) (hl : DO X W lo dlo) (hh : DO X W hi dhi) : DF X W (.Subscript (.Name x p) (.Slice lo hi none p2) pos) (dSlv gSlL i dlo dhi) := DF.of (pe_slice sl_list ha hl hh) (fo_slv canon_ok canon_ok)
/-! built-in functions -/
theorem de_b {id : String} {r : List V → Hp → VK → Prop} {g : List PV → Option PV} (hc : CallR X (.builtin id) r) (hv : VN X.K r g) (hm : X.mg x = none) (hb : bootBuiltins x = some (.builtin id)) (ha : DA X W (e :: es) dl) (hg : Gl X x := by rfl) (hn : x ≠ "__name__" := by decide) (hdb : (x == ("__debug__" : Str)) = false := by decide)
    (he : starEach (e :: es) X.env = (false, eval e X.env) :: starEach es X.env := by rfl) (hpl : (backTo pos (starEach es X.env)).any (·.1) = false := by rfl) : DE X W (.Call (.Name x p) (e :: es) [] pos) (dN g dl) := DE.of (pe_callB hc hg hm hb ha hn hdb he hpl) (eo_n canon_ok hv)
theorem de_bty {T : String} {r : List V → Hp → VK → Prop} {g : List PV → Option PV} (hc : CallR X (.type T) r) (hv : VN X.K r g) (hm : X.mg x = none) (hb : bootBuiltins x = some (.type T)) (ha : DA X W (e :: es) dl) (hg : Gl X x := by rfl) (hn : x ≠ "__name__" := by decide) (hdb : (x == ("__debug__" : Str)) = false := by decide)
    (he : starEach (e :: es) X.env = (false, eval e X.env) :: starEach es X.env := by rfl) (hpl : (backTo pos (starEach es X.env)).any (·.1) = false := by rfl) : DE X W (.Call (.Name x p) (e :: es) [] pos) (dN g dl) := DE.of (pe_callTy hc hg hm hb ha hn hdb he hpl) (eo_n canon_ok hv)
theorem de_lenv (B : Bi X.mg) (i : Nat) (ha : PE X (.Name x p2) (tVar i)) (hg : Gl X "len" := by rfl) (he : starEach [.Name x p2] X.env = (false, eval (.Name x p2) X.env) :: starEach [] X.env := by rfl) (hs : starEach ([] : List Expr) X.env = [] := by rfl) (hpl : (backTo pos (starEach [] X.env)).any (·.1) = false := by rfl) :
    DE X W (.Call (.Name "len" p) [.Name x p2] [] pos) (d1v gLen i) := DE.of (pe_callB call_len hg B.len PySem.boot_len (pa_cons ha pa_nil he) (by decide) (by decide) he hpl) (eo_nv vn_len len_sc)
theorem de_len (B : Bi X.mg) (ha : DA X W (e :: es) dl) (hg : Gl X "len" := by rfl) (he : starEach (e :: es) X.env = (false, eval e X.env) :: starEach es X.env := by rfl) (hpl : (backTo pos (starEach es X.env)).any (·.1) = false := by rfl) :
    DE X W (.Call (.Name "len" p) (e :: es) [] pos) (dN gLenN dl) := de_b call_len vn_len B.len PySem.boot_len ha hg (by decide) (by decide) he hpl
theorem de_abs (B : Bi X.mg) (ha : DA X W (e :: es) dl) (hg : Gl X "abs" := by rfl) (he : starEach (e :: es) X.env = (false, eval e X.env) :: starEach es X.env := by rfl) (hpl : (backTo pos (starEach es X.env)).any (·.1) = false := by rfl) :
    DE X W (.Call (.Name "abs" p) (e :: es) [] pos) (dN gAbs dl) := de_b call_abs vn_abs B.abs (by decide +kernel) ha hg (by decide) (by decide) he hpl
theorem de_max2 (c : Ctx X W k) (B : Bi X.mg) (ha : DA X W (e :: es) dl) (hg : Gl X "max" := by rfl) (he : starEach (e :: es) X.env = (false, eval e X.env) :: starEach es X.env := by rfl) (hpl : (backTo pos (starEach es X.env)).any (·.1) = false := by rfl) :
    DE X W (.Call (.Name "max" p) (e :: es) [] pos) (dN gMax2 dl) := de_b (call_max2 c.calm) vn_max2 B.max (by decide +kernel) ha hg (by decide) (by decide) he hpl
theorem de_min2 (c : Ctx X W k) (B : Bi X.mg) (ha : DA X W (e :: es) dl) (hg : Gl X "min" := by rfl) (he : starEach (e :: es) X.env = (false, eval e X.env) :: starEach es X.env := by rfl) (hpl : (backTo pos (starEach es X.env)).any (·.1) = false := by rfl) :
    DE X W (.Call (.Name "min" p) (e :: es) [] pos) (dN gMin2 dl) := de_b (call_min2 c.calm) vn_min2 B.min (by decide +kernel) ha hg (by decide) (by decide) he hpl
theorem de_sum (c : Ctx X W k) (B : Bi X.mg) (ha : DA X W (e :: es) dl) (hg : Gl X "sum" := by rfl) (he : starEach (e :: es) X.env = (false, eval e X.env) :: starEach es X.env := by rfl) (hpl : (backTo pos (starEach es X.env)).any (·.1) = false := by rfl) :
    DE X W (.Call (.Name "sum" p) (e :: es) [] pos) (dN gSumN dl) := de_b (cr_sum c.calm) vn_sum B.sum (by decide +kernel) ha hg (by decide) (by decide) he hpl
theorem de_toint (B : Bi X.mg) (ha : DA X W (e :: es) dl) (hg : Gl X "int" := by rfl) (he : starEach (e :: es) X.env = (false, eval e X.env) :: starEach es X.env := by rfl) (hpl : (backTo pos (starEach es X.env)).any (·.1) = false := by rfl) :
    DE X W (.Call (.Name "int" p) (e :: es) [] pos) (dN gInt dl) := de_bty call_intU vn_int B.int (by decide +kernel) ha hg (by decide) (by decide) he hpl
/-! what changes a list -/
theorem de_append (i : Nat) (ho : PE X (.Name x np) (tVar i)) (ha : DA X W (e :: es) dl) (hbase : attributeBase (.Name x np) "append" X.env (eval (.Name x np) X.env) = eval (.Name x np) X.env := by rfl)
    (hfew : ((backTo cpos (starEach (e :: es) X.env)).all (fun x => !x.1) && (backToKw cpos (keywordEach [] X.env)).all (fun x => x.1.isSome) && decide ((e :: es).length + ([] : List Keyword).length + (if ([] : List Keyword).isEmpty then 0 else 1) < 30)) = true := by rfl)
    (hline : (apos.endLine == cpos.line) = true := by rfl) (hs : starEach (e :: es) X.env = (false, eval e X.env) :: starEach es X.env := by rfl) (hplain : (backTo cpos (starEach es X.env)).any (·.1) = false := by rfl) :
    DE X W (.Call (.Attribute (.Name x np) "append" apos) (e :: es) [] cpos) (dMut "list" gAppend i dl) :=
  DE.of (pe_bm PySem.F.plainAttrs_list PySem.F.slot_list_append PySem.F.type_list_append mt_append ho ha hbase hfew hline hs hplain) (eo_mut canon_ok mu_append)
theorem de_extend (i : Nat) (ho : PE X (.Name x np) (tVar i)) (ha : DA X W (e :: es) dl) (hbase : attributeBase (.Name x np) "extend" X.env (eval (.Name x np) X.env) = eval (.Name x np) X.env := by rfl)
    (hfew : ((backTo cpos (starEach (e :: es) X.env)).all (fun x => !x.1) && (backToKw cpos (keywordEach [] X.env)).all (fun x => x.1.isSome) && decide ((e :: es).length + ([] : List Keyword).length + (if ([] : List Keyword).isEmpty then 0 else 1) < 30)) = true := by rfl)
    (hline : (apos.endLine == cpos.line) = true := by rfl) (hs : starEach (e :: es) X.env = (false, eval e X.env) :: starEach es X.env := by rfl) (hplain : (backTo cpos (starEach es X.env)).any (·.1) = false := by rfl) :
    DE X W (.Call (.Attribute (.Name x np) "extend" apos) (e :: es) [] cpos) (dMut "list" gExtend i dl) :=
  DE.of (pe_bm PySem.F.plainAttrs_list PySem.F.slot_list_extend PySem.F.type_list_extend mt_extend ho ha hbase hfew hline hs hplain) (eo_mut canon_ok mu_extend)
theorem de_popAt (i : Nat) (ho : PE X (.Name x np) (tVar i)) (ha : DA X W (e :: es) dl) (hbase : attributeBase (.Name x np) "pop" X.env (eval (.Name x np) X.env) = eval (.Name x np) X.env := by rfl)
    (hfew : ((backTo cpos (starEach (e :: es) X.env)).all (fun x => !x.1) && (backToKw cpos (keywordEach [] X.env)).all (fun x => x.1.isSome) && decide ((e :: es).length + ([] : List Keyword).length + (if ([] : List Keyword).isEmpty then 0 else 1) < 30)) = true := by rfl)
    (hline : (apos.endLine == cpos.line) = true := by rfl) (hs : starEach (e :: es) X.env = (false, eval e X.env) :: starEach es X.env := by rfl) (hplain : (backTo cpos (starEach es X.env)).any (·.1) = false := by rfl) :
    DE X W (.Call (.Attribute (.Name x np) "pop" apos) (e :: es) [] cpos) (dMut "list" gPopAt i dl) :=
  DE.of (pe_bm PySem.F.plainAttrs_list PySem.F.slot_list_pop PySem.F.type_list_pop mt_popAt ho ha hbase hfew hline hs hplain) (eo_mut canon_ok mu_popAt)
theorem de_pop (i : Nat) (ho : PE X (.Name x np) (tVar i)) (hbase : attributeBase (.Name x np) "pop" X.env (eval (.Name x np) X.env) = eval (.Name x np) X.env := by rfl) (hline : (apos.endLine == cpos.line) = true := by rfl) :
    DE X W (.Call (.Attribute (.Name x np) "pop" apos) [] [] cpos) (dMut0 "list" gPop i) :=
  DE.of (pe_bm0 PySem.F.plainAttrs_list PySem.F.slot_list_pop PySem.F.type_list_pop mt_pop ho hbase hline) (eo_mut0 mu_pop)
theorem de_reverse (i : Nat) (ho : PE X (.Name x np) (tVar i)) (hbase : attributeBase (.Name x np) "reverse" X.env (eval (.Name x np) X.env) = eval (.Name x np) X.env := by rfl) (hline : (apos.endLine == cpos.line) = true := by rfl) :
    DE X W (.Call (.Attribute (.Name x np) "reverse" apos) [] [] cpos) (dMut0 "list" gReverse i) :=
  DE.of (pe_bm0 PySem.F.plainAttrs_list PySem.F.slot_list_reverse PySem.F.type_list_reverse mt_reverse ho hbase hline) (eo_mut0 mu_reverse)
end

/-! ### defs called by name -/
structure Fd (P : Program) (w : World) (K : PySem.W.Frag) (mg : Str → Option Value) (base : Heap) (x : Str) (k : Nat) (io fr : Bool) (n : Nat) (F : List PV → FR) : Prop where
  ex : ∃ (f : Addr) (fd : FuncData) (ps : List Str), FnOk P w K mg base (L2.CX P w) k f fd ps (spD K mg io fr n F) ∧ mg x = some (.ref f) ∧ PySem.W.keepIn K (.ref f) = true ∧ Binds K fd ps []
  len : ∀ ps, F ps ≠ .bad → ps.length = n
section
variable {X : Cx} {W : WX} {fr : Bool} {j k : Nat} {pos p p2 : Pos} {e : Expr} {es : List Expr} {dl : DenL} {x y : Str} {n : Nat} {F : List PV → FR}
theorem de_call (G : Fd X.prog X.w X.K X.mg X.base x j false false n F) (c : Ctx X W k) (ha : DA X W (e :: es) dl) (hj : j ≤ k := by decide) (hg : Gl X x := by rfl) (hdb : (x == ("__debug__" : Str)) = false := by decide)
    (he : starEach (e :: es) X.env = (false, eval e X.env) :: starEach es X.env := by rfl) (hpl : (backTo pos (starEach es X.env)).any (·.1) = false := by rfl) : DE X W (.Call (.Name x p) (e :: es) [] pos) (dCall F dl) := by
  obtain ⟨f, fd, ps, h1, h2, h3, h4⟩ := G.ex
  exact DE.of (pe_callS h1 (c.room.mono hj) hg h2 h3 h4 (fun σ => passAt c.tk σ) ha hdb he hpl) (eo_call canon_ok G.len)
theorem df_call (G : Fd X.prog X.w X.K X.mg X.base x j false true n F) (c : Ctx X W k) (ha : DA X W (e :: es) dl) (hj : j ≤ k := by decide) (hg : Gl X x := by rfl) (hdb : (x == ("__debug__" : Str)) = false := by decide)
    (he : starEach (e :: es) X.env = (false, eval e X.env) :: starEach es X.env := by rfl) (hpl : (backTo pos (starEach es X.env)).any (·.1) = false := by rfl) : DF X W (.Call (.Name x p) (e :: es) [] pos) (dCall F dl) := by
  obtain ⟨f, fd, ps, h1, h2, h3, h4⟩ := G.ex
  exact DF.of (pe_callS h1 (c.room.mono hj) hg h2 h3 h4 (fun σ => passAt c.tk σ) ha hdb he hpl) (fo_call canon_ok G.len)
theorem de_callIo (G : Fd X.prog X.w X.K X.mg X.base x j true false n F) (c : Ctx X W k) (i : Nat) (ho : PE X (.Name y p2) (tVar i)) (ha : DA X W es dl) (hj : j ≤ k := by decide) (hg : Gl X x := by rfl) (hdb : (x == ("__debug__" : Str)) = false := by decide)
    (he : starEach (.Name y p2 :: es) X.env = (false, eval (.Name y p2) X.env) :: starEach es X.env := by rfl) (hpl : (backTo pos (starEach es X.env)).any (·.1) = false := by rfl) : DE X W (.Call (.Name x p) (.Name y p2 :: es) [] pos) (dCallIo F i dl) := by
  obtain ⟨f, fd, ps, h1, h2, h3, h4⟩ := G.ex
  exact DE.of (pe_callS h1 (c.room.mono hj) hg h2 h3 h4 (fun σ => passAt c.tk σ) (pa_cons ho ha he) hdb he hpl) (eo_callIo canon_ok G.len)
theorem df_callIo (G : Fd X.prog X.w X.K X.mg X.base x j true true n F) (c : Ctx X W k) (i : Nat) (ho : PE X (.Name y p2) (tVar i)) (ha : DA X W es dl) (hj : j ≤ k := by decide) (hg : Gl X x := by rfl) (hdb : (x == ("__debug__" : Str)) = false := by decide)
    (he : starEach (.Name y p2 :: es) X.env = (false, eval (.Name y p2) X.env) :: starEach es X.env := by rfl) (hpl : (backTo pos (starEach es X.env)).any (·.1) = false := by rfl) : DF X W (.Call (.Name x p) (.Name y p2 :: es) [] pos) (dCallIo F i dl) := by
  obtain ⟨f, fd, ps, h1, h2, h3, h4⟩ := G.ex
  exact DF.of (pe_callS h1 (c.room.mono hj) hg h2 h3 h4 (fun σ => passAt c.tk σ) (pa_cons ho ha he) hdb he hpl) (fo_callIo canon_ok G.len)
end
end PL

set_option Elab.async false
set_option linter.all false
set_option maxRecDepth 100000
set_option maxHeartbeats 4000000
namespace PL
open PySem PySem.Spec L2
set_option autoImplicit false

/-! ### what is walked -/
section
variable {K : PySem.W.Frag} {S H : Hp}
theorem itr_list {a : Addr} {vs : List V} {ps : List PV} (s : Same S H) (h : S a = some (.lst vs)) (r : RepL K S ps vs) : ItR K S H ps (Itl K a) := fun i S1 H1 s1 s2 => by
  have hl : SqL K H1 a vs := .inl (.inl (s2 _ _ (s1 _ _ h)))
  refine ⟨fun hi => ⟨vs, hl, by rw [← r.length]; exact hi⟩, fun p e => ?_⟩
  obtain ⟨v, h1, h2⟩ := r.get e
  refine ⟨⟨vs, v, hl, h1⟩, fun x H2 y => ?_⟩
  obtain ⟨e1, y⟩ := y
  subst e1
  have e2 := y vs hl
  rw [h1] at e2
  cases e2
  exact ⟨S1, Step.refl s2, h2.up s1⟩
theorem itr_tup {a : Addr} {vs : List V} {ps : List PV} (s : Same S H) (h : SqT K S a vs) (r : RepL K S ps vs) : ItR K S H ps (Itt K a) := fun i S1 H1 s1 s2 => by
  have hl : SqT K H1 a vs := Same.tupK s2 (Same.tupK s1 h)
  refine ⟨fun hi => ⟨vs, hl, by rw [← r.length]; exact hi⟩, fun p e => ?_⟩
  obtain ⟨v, h1, h2⟩ := r.get e
  refine ⟨⟨vs, v, hl, h1⟩, fun x H2 y => ?_⟩
  obtain ⟨e1, y⟩ := y
  subst e1
  have e2 := y vs hl
  rw [h1] at e2
  cases e2
  exact ⟨S1, Step.refl s2, h2.up s1⟩
def signs (x : Str) : List PV := x.cps.toList.map fun c => .str ⟨#[c]⟩
theorem itr_str {x : Str} : ItR K S H (signs x) (Its x) := fun i S1 H1 s1 s2 => by
  refine ⟨fun hi => ?_, fun p e => ?_⟩
  · have hi : (x.cps.toList.map fun c => (PV.str ⟨#[c]⟩)).length ≤ i := hi
    rw [List.length_map, Array.length_toList] at hi
    exact hi
  · have e : (x.cps.toList.map fun c => (PV.str ⟨#[c]⟩))[i]? = some p := e
    rw [List.getElem?_map] at e
    cases h : x.cps.toList[i]? with
    | none => rw [h] at e; cases e
    | some c =>
      rw [h] at e
      cases e
      have hi : i < x.cps.size := by
        have z := (List.getElem?_eq_some_iff.mp h).1
        rw [Array.length_toList] at z
        exact z
      refine ⟨hi, fun v H2 y => ?_⟩
      obtain ⟨e1, d, h1, h2⟩ := y
      subst e1
      have h3 : x.cps[i]? = some c := by rw [← Array.getElem?_toList]; exact h
      rw [h3] at h1
      cases h1
      subst h2
      exact ⟨S1, Step.refl s2, .str _⟩
def rangeP (lo : Int) (n : Nat) : List PV := (List.range n).map fun (i : Nat) => .int (lo + (i : Int))
theorem itr_range {lo : Int} {n : Nat} : ItR K S H (rangeP lo n) (Itr lo n) := fun i S1 H1 s1 s2 => by
  refine ⟨fun hi => ?_, fun p e => ?_⟩
  · unfold rangeP at hi
    rw [List.length_map, List.length_range] at hi
    exact hi
  · unfold rangeP at e
    rw [List.getElem?_map] at e
    cases h : (List.range n)[i]? with
    | none => rw [h] at e; cases e
    | some c =>
      rw [h] at e
      cases e
      have hi : i < n := by
        have z := (List.getElem?_eq_some_iff.mp h).1
        rwa [List.length_range] at z
      rw [List.getElem?_range hi] at h
      cases h
      refine ⟨hi, fun v H2 y => ?_⟩
      obtain ⟨e1, h2⟩ := y
      subst e1
      subst h2
      exact ⟨S1, Step.refl s2, .int _⟩
def rangeC (lo c : Int) (n : Nat) : List PV := (List.range n).map fun (i : Nat) => .int (lo + (i : Int) * c)
theorem itr_rangeC {lo c : Int} {n : Nat} : ItR K S H (rangeC lo c n) (Itc lo c n) := fun i S1 H1 s1 s2 => by
  refine ⟨fun hi => ?_, fun p e => ?_⟩
  · unfold rangeC at hi
    rw [List.length_map, List.length_range] at hi
    exact hi
  · unfold rangeC at e
    rw [List.getElem?_map] at e
    cases h : (List.range n)[i]? with
    | none => rw [h] at e; cases e
    | some j =>
      rw [h] at e
      cases e
      have hi : i < n := by
        have z := (List.getElem?_eq_some_iff.mp h).1
        rwa [List.length_range] at z
      rw [List.getElem?_range hi] at h
      cases h
      refine ⟨hi, fun v H2 y => ?_⟩
      obtain ⟨e1, h2⟩ := y
      subst e1
      subst h2
      exact ⟨S1, Step.refl s2, .int _⟩
def enumP (i : Int) : List PV → List PV
  | [] => []
  | p :: ps => .tup [.int i, p] :: enumP (i + 1) ps
theorem enumP_get : ∀ (ps : List PV) (i : Int) (n : Nat), (enumP i ps)[n]? = (ps[n]?).map fun p => .tup [.int (i + n), p]
  | [], i, n => by simp [enumP]
  | p :: ps, i, 0 => by simp [enumP]
  | p :: ps, i, n + 1 => by
    simp only [enumP, List.getElem?_cons_succ]
    rw [enumP_get ps (i + 1) n]
    cases ps[n]? with
    | none => rfl
    | some q =>
      show some (PV.tup [.int (i + 1 + n), q]) = some (PV.tup [.int (i + ((n + 1 : Nat) : Int)), q])
      rw [show i + 1 + (n : Int) = i + ((n + 1 : Nat) : Int) by omega]
theorem enumP_length : ∀ (ps : List PV) (i : Int), (enumP i ps).length = ps.length
  | [], _ => rfl
  | p :: ps, i => by simp [enumP, enumP_length ps]
theorem itr_enum {a : Addr} {vs : List V} {ps : List PV} (s : Same S H) (h : S a = some (.lst vs)) (r : RepL K S ps vs) : ItR K S H (enumP 0 ps) (Ite K a) := fun i S1 H1 s1 s2 => by
  have hl : SqL K H1 a vs := .inl (.inl (s2 _ _ (s1 _ _ h)))
  refine ⟨fun hi => ⟨vs, hl, by rw [enumP_length] at hi; rw [← r.length]; exact hi⟩, fun p e => ?_⟩
  rw [enumP_get] at e
  cases e1 : ps[i]? with
  | none => rw [e1] at e; cases e
  | some q =>
    rw [e1] at e
    cases e
    obtain ⟨v, h1, h2⟩ := r.get e1
    refine ⟨⟨vs, v, hl, h1⟩, fun x H2 y => ?_⟩
    obtain ⟨T, x', rfl, hT, rfl, y⟩ := y
    have e2 := y vs hl
    rw [h1] at e2
    cases e2
    refine ⟨upd S1 T (.tup [.int (i : Nat), v]), Step.new1 s2 hT, .tup upd_same ?_⟩
    refine .cons ?_ (.cons ((h2.up s1).up (same_upd (Same.free s2 hT))) .nil)
    rw [Int.zero_add]
    exact .int _
theorem itr_zip {a b : Addr} {vs us : List V} {ps qs : List PV} (s : Same S H) (h : S a = some (.lst vs)) (r : RepL K S ps vs) (h' : S b = some (.lst us)) (r' : RepL K S qs us) : ItR K S H (List.zipWith (fun p q => .tup [p, q]) ps qs) (Itz K a b) := fun i S1 H1 s1 s2 => by
  have hl : SqL K H1 a vs := .inl (.inl (s2 _ _ (s1 _ _ h)))
  have hl' : SqL K H1 b us := .inl (.inl (s2 _ _ (s1 _ _ h')))
  refine ⟨fun hi => ⟨vs, us, hl, hl', ?_⟩, fun p e => ?_⟩
  · rw [List.length_zipWith, r.length, r'.length] at hi
    omega
  · rw [List.getElem?_zipWith] at e
    cases e1 : ps[i]? with
    | none => rw [e1] at e; cases e
    | some q =>
      cases e2 : qs[i]? with
      | none => rw [e1, e2] at e; cases e
      | some q' =>
        rw [e1, e2] at e
        cases e
        obtain ⟨v, h1, h2⟩ := r.get e1
        obtain ⟨u, h3, h4⟩ := r'.get e2
        refine ⟨⟨vs, us, v, u, hl, hl', h1, h3⟩, fun x H2 y => ?_⟩
        obtain ⟨T, x', y', rfl, hT, rfl, y1, y2⟩ := y
        have z1 := y1 vs hl
        rw [h1] at z1
        cases z1
        have z2 := y2 us hl'
        rw [h3] at z2
        cases z2
        exact ⟨upd S1 T (.tup [v, u]), Step.new1 s2 hT, .tup upd_same (.cons ((h2.up s1).up (same_upd (Same.free s2 hT))) (.cons ((h4.up s1).up (same_upd (Same.free s2 hT))) .nil))⟩
theorem itr_rev {a : Addr} {vs : List V} {ps : List PV} (s : Same S H) (h : S a = some (.lst vs)) (r : RepL K S ps vs) : ItR K S H ps.reverse (Itv K a vs.length) := fun i S1 H1 s1 s2 => by
  have hl : SqL K H1 a vs := .inl (.inl (s2 _ _ (s1 _ _ h)))
  refine ⟨fun hi => by rw [List.length_reverse, r.length] at hi; exact hi, fun p e => ?_⟩
  have hi : i < ps.reverse.length := (List.getElem?_eq_some_iff.mp e).1
  rw [List.length_reverse, r.length] at hi
  have e0 : ps[ps.length - 1 - i]? = some p := by
    rw [List.getElem?_reverse (by rw [r.length]; exact hi)] at e
    exact e
  obtain ⟨v, h1, h2⟩ := r.get e0
  rw [r.length] at h1
  refine ⟨⟨hi, vs, v, hl, h1⟩, fun x H2 y => ?_⟩
  obtain ⟨e1, y⟩ := y
  subst e1
  have e2 := y vs hl
  rw [h1] at e2
  cases e2
  exact ⟨S1, Step.refl s2, h2.up s1⟩
end
def seqOf : PV → Option (List PV)
  | .lst ps => some ps
  | .tup ps => some ps
  | .ktup ps => some ps
  | .str x => some (signs x)
  | _ => none
def iSeq (da : Den) : DenL := fun ρ => (da ρ).bind fun p ρ1 => opt (seqOf p) ρ1
def iR1 (dl : DenL) : DenL := fun ρ => (dl ρ).bind fun ps ρ1 => match ps with
  | [.int j] => if decide (-(2 ^ 62) ≤ j) && decide (j < 2 ^ 62) then .ok (rangeP 0 j.toNat) ρ1 else .bad
  | _ => .bad
def iR2 (dl : DenL) : DenL := fun ρ => (dl ρ).bind fun ps ρ1 => match ps with
  | [.int i, .int j] => if (decide (-(2 ^ 62) ≤ i) && decide (i < 2 ^ 62)) && (decide (-(2 ^ 62) ≤ j) && decide (j < 2 ^ 62)) then .ok (rangeP i (j - i).toNat) ρ1 else .bad
  | _ => .bad
def iEnu (dl : DenL) : DenL := fun ρ => (dl ρ).bind fun ps ρ1 => match ps with
  | [.lst qs] => .ok (enumP 0 qs) ρ1
  | _ => .bad
def iZp (dl : DenL) : DenL := fun ρ => (dl ρ).bind fun ps ρ1 => match ps with
  | [.lst qs, .lst rs] => .ok (List.zipWith (fun p q => .tup [p, q]) qs rs) ρ1
  | _ => .bad
def iRv (dl : DenL) : DenL := fun ρ => (dl ρ).bind fun ps ρ1 => match ps with
  | [.lst qs] => .ok qs.reverse ρ1
  | _ => .bad
/-- range(i, j, c) with a written step -/
def rgN (i j c : Int) : Option Nat := if c = 0 then none else if decide (c.natAbs < 1073741824) && Builtin.Range.small i j c then some (Builtin.Range.rangeSize i j c).toNat else none
def iR3 (dl : DenL) : DenL := fun ρ => (dl ρ).bind fun ps ρ1 => match ps with
  | [.int i, .int j, .int c] => if c = 2 ∨ c = -1 then (if decide (-(2 ^ 60) ≤ i) && decide (i < 2 ^ 60) && (decide (-(2 ^ 60) ≤ j) && decide (j < 2 ^ 60)) then .ok (rangeC i c (if c = 2 then ((j - i + 1) / 2).toNat else (i - j).toNat)) ρ1 else .bad) else .bad
  | _ => .bad
section
variable {X : Cx} {W : WX} {fr : Bool} {k : Nat} {pos p p2 tpos : Pos} {e a b c : Expr} {es elts : List Expr} {da : Den} {dl : DenL} {x : Str} {tg : Expr} {kk : Nat}
theorem di_seq (he : DE X W e da) : DI X W tg e (iSeq da) := by
  refine ⟨fun pins s σ H R I h => ?_⟩
  obtain ⟨H₀, S₀, M, S, ρ, ab, hp⟩ := h
  have h1 : canon X.K X.mg W (rV X.K) da σ H fun v H1 => ∃ (S1 : Hp) (ρ1 : Env) (q : PV) (ps : List PV), Abs X.K H₀ S₀ M S1 σ H1 ρ1 ∧ Rep X.K S1 q v ∧ seqOf q = some ps ∧ ∀ J, ItR X.K S1 H1 ps J → R J H1 :=
    XOk.bind (Rl' := rIt X.K) canon_ok ab hp fun q ρ1 v S1 H1 _ a1 _ r1 hp => by
      cases e1 : seqOf q with
      | none => rw [e1] at hp; exact hp.elim
      | some ps =>
        rw [e1] at hp
        exact ⟨S1, ρ1, q, ps, a1, r1, e1, fun J j => hp J S1 H1 a1 j⟩
  refine thn (he.run pins s σ H _ I h1) fun v s1 ⟨y, H1, I1, r1, S1, ρ1, q, ps, a1, rq, e1, hR⟩ => ?_
  cases q with
  | lst qs =>
    cases e1
    cases rq with
    | lst h2 h3 =>
      cases r1
      obtain ⟨its, rv, pl, hz⟩ := I1.list (.inl (.inl (a1.sub _ _ h2)))
      refine PySem.wpAny_pyIter_list pl.isList ?_
      refine ⟨s1.heap.objs.size, [s1.heap.objs.size], _, _, H1, rfl, I1.kept (t' := s1.toks) fun b o e => Heap.get?_push_of_some _ e, turn_list _ _, ⟨_, Heap.get?_push_size _ rfl, rfl, rfl⟩, fun b hb => ?_, hR _ (itr_list a1.sub h2 h3)⟩
      have e : b = s1.heap.objs.size := by simpa using hb
      subst e
      exact I1.fpOk (Nat.le_refl _) (I1.hok.fresh (Nat.le_refl _))
  | tup qs =>
    cases e1
    cases rq with
    | tup h2 h3 =>
      cases r1
      obtain ⟨its, rv, pl, hz⟩ := I1.tuple (.inl (.inl (a1.sub _ _ h2)))
      refine PySem.wpAny_pyIter_tuple (show s1.heap.IsTuple _ its.toArray from pl) ?_
      refine ⟨s1.heap.objs.size, [s1.heap.objs.size], _, _, H1, rfl, I1.kept (t' := s1.toks) fun b o e => Heap.get?_push_of_some _ e, turn_tuple _ _, ⟨_, Heap.get?_push_size _ rfl, rfl, rfl⟩, fun b hb => ?_, hR _ (itr_tup a1.sub (.inl (.inl h2)) h3)⟩
      have e : b = s1.heap.objs.size := by simpa using hb
      subst e
      exact I1.fpOk (Nat.le_refl _) (I1.hok.fresh (Nat.le_refl _))
  | ktup qs =>
    cases e1
    cases rq with
    | ktup h2 h3 =>
      cases r1
      obtain ⟨its, rv, pl, hz⟩ := I1.tuple (Same.tupK a1.sub h2)
      refine PySem.wpAny_pyIter_tuple (show s1.heap.IsTuple _ its.toArray from pl) ?_
      refine ⟨s1.heap.objs.size, [s1.heap.objs.size], _, _, H1, rfl, I1.kept (t' := s1.toks) fun b o e => Heap.get?_push_of_some _ e, turn_tuple _ _, ⟨_, Heap.get?_push_size _ rfl, rfl, rfl⟩, fun b hb => ?_, hR _ (itr_tup a1.sub h2 h3)⟩
      have e : b = s1.heap.objs.size := by simpa using hb
      subst e
      exact I1.fpOk (Nat.le_refl _) (I1.hok.fresh (Nat.le_refl _))
  | str z =>
    cases e1
    cases rq
    obtain ⟨t, rfl⟩ := r1
    cases ha : z.cps.all (· < 128)
    · exact wpAny_pyIter_wide ha (pi_one (tk := s1.toks) I1 _ (turn_str _ z t "str_iterator" (.inr rfl)) ⟨_, Heap.get?_push_size _ rfl, rfl, rfl⟩ (hR _ itr_str))
    · exact wpAny_pyIter_ascii ha (pi_one (tk := s1.toks) I1 _ (turn_str _ z t "str_ascii_iterator" (.inl rfl)) ⟨_, Heap.get?_push_size _ rfl, rfl, rfl⟩ (hR _ itr_str))
  | _ => cases e1
theorem di_r1 (B : Bi X.mg) (ha : DA X W [a] dl) (hg : Gl X "range" := by rfl) (hs : starEach [a] X.env = [(false, eval a X.env)] := by rfl) : DI X W tg (.Call (.Name "range" p) [a] [] pos) (iR1 dl) :=
  DI.of (pi_range1 hg B.range ha hs) fun H₀ S₀ M S σ H ρ Q ab hp => canon_ok.bind (Rl' := rIt X.K) ab hp fun ps ρ1 vs S1 H1 _ a1 _ r1 hp => by
    split at hp
    · split at hp
      · rename_i hz
        simp only [Bool.and_eq_true, decide_eq_true_eq] at hz
        cases r1 with
        | cons r2 r3 =>
          cases r3; cases r2
          exact ⟨_, rfl, hz.1, hz.2, hp _ S1 H1 a1 itr_range⟩
      · exact hp.elim
    · exact hp.elim
theorem di_r2 (B : Bi X.mg) (ha : DA X W [a, b] dl) (hg : Gl X "range" := by rfl) (hs : starEach [a, b] X.env = [(false, eval a X.env), (false, eval b X.env)] := by rfl) (hs2 : starEach [b] X.env = [(false, eval b X.env)] := by rfl) : DI X W tg (.Call (.Name "range" p) [a, b] [] pos) (iR2 dl) :=
  DI.of (pi_range2 hg B.range ha hs hs2) fun H₀ S₀ M S σ H ρ Q ab hp => canon_ok.bind (Rl' := rIt X.K) ab hp fun ps ρ1 vs S1 H1 _ a1 _ r1 hp => by
    split at hp
    · split at hp
      · rename_i hz
        simp only [Bool.and_eq_true, decide_eq_true_eq] at hz
        cases r1 with
        | cons r2 r3 =>
          cases r3 with
          | cons r4 r5 =>
            cases r5; cases r2; cases r4
            exact ⟨_, _, rfl, ⟨hz.1.1, hz.1.2, hz.2.1, hz.2.2⟩, hp _ S1 H1 a1 itr_range⟩
      · exact hp.elim
    · exact hp.elim
theorem di_enum (B : Bi X.mg) (ha : DA X W [e] dl) (hg : Gl X "enumerate" := by rfl) (hs : starEach [e] X.env = [(false, eval e X.env)] := by rfl) : DI X W (.Tuple elts kk tpos) (.Call (.Name "enumerate" p) [e] [] pos) (iEnu dl) :=
  DI.of (pi_enum hg B.enumerate ha hs) fun H₀ S₀ M S σ H ρ Q ab hp => canon_ok.bind (Rl' := rIt X.K) ab hp fun ps ρ1 vs S1 H1 _ a1 _ r1 hp => by
    split at hp
    · cases r1 with
      | cons r2 r3 =>
        cases r3
        cases r2 with
        | lst h1 h2 => exact ⟨_, _, rfl, .inl (.inl (a1.sub _ _ h1)), hp _ S1 H1 a1 (itr_enum a1.sub h1 h2)⟩
    · exact hp.elim
theorem di_zip (B : Bi X.mg) (ha : DA X W [e, a] dl) (hg : Gl X "zip" := by rfl) (hs : starEach [e, a] X.env = (false, eval e X.env) :: starEach [a] X.env := by rfl) (hpl : (backTo pos (starEach [a] X.env)).any (·.1) = false := by rfl) : DI X W (.Tuple elts kk tpos) (.Call (.Name "zip" p) [e, a] [] pos) (iZp dl) :=
  DI.of (pi_zip hg B.zip ha hs hpl) fun H₀ S₀ M S σ H ρ Q ab hp => canon_ok.bind (Rl' := rIt X.K) ab hp fun ps ρ1 vs S1 H1 _ a1 _ r1 hp => by
    split at hp
    · cases r1 with
      | cons r2 r3 =>
        cases r3 with
        | cons r4 r5 =>
          cases r5
          cases r2 with
          | lst h1 h2 =>
            cases r4 with
            | lst h3 h4 => exact ⟨_, _, _, _, rfl, .inl (.inl (a1.sub _ _ h1)), .inl (.inl (a1.sub _ _ h3)), hp _ S1 H1 a1 (itr_zip a1.sub h1 h2 h3 h4)⟩
    · exact hp.elim
theorem di_rev (B : Bi X.mg) (ha : DA X W [e] dl) (hg : Gl X "reversed" := by rfl) (hs : starEach [e] X.env = [(false, eval e X.env)] := by rfl) : DI X W tg (.Call (.Name "reversed" p) [e] [] pos) (iRv dl) :=
  DI.of (pi_reversed hg B.reversed ha hs) fun H₀ S₀ M S σ H ρ Q ab hp => canon_ok.bind (Rl' := rIt X.K) ab hp fun ps ρ1 vs S1 H1 _ a1 _ r1 hp => by
    split at hp
    · cases r1 with
      | cons r2 r3 =>
        cases r3
        cases r2 with
        | lst h1 h2 => exact ⟨_, _, rfl, .inl (.inl (a1.sub _ _ h1)), hp _ S1 H1 a1 (itr_rev a1.sub h1 h2)⟩
    · exact hp.elim

/-! ### targets -/
structure DG (X : Cx) (tg : Expr) (g : TG) (dg : DenG) : Prop where
  pg : PG X tg g
  ok : GOk X.K g dg
  mono : GMono g
structure DGs (X : Cx) (tgs : List Expr) (g : TGs) (dg : List PV → Env → Option Env) (n : Nat) : Prop where
  pg : PGs X tgs g
  ok : GsOk X.K g dg
  mono : GsMono g
  len : ∀ ps ρ ρ', dg ps ρ = some ρ' → ps.length = n
theorem dg_name {W : WX} (c : Ctx X W k) (i : Nat) (hi : X.N[i]? = some x := by rfl) (hx : Loc X.env.scope x := by first | exact Or.inl rfl | exact Or.inr rfl) (hf : X.fn x = true ∨ X.env.scope.names.lookup x = some .local := by first | exact .inl rfl | exact .inr rfl) : DG X (.Name x pos) (L2.gName i) (gName i) :=
  ⟨pg_name c.nd hi hx hf, go_name, gm_name⟩
theorem dgs_nil : DGs X [] L2.gNil gsNil 0 := ⟨pgs_nil, gso_nil, gms_nil, gsNil_len⟩
theorem dgs_cons {g : TG} {dg : DenG} {gs : TGs} {dgs : List PV → Env → Option Env} {n : Nat} (h1 : DG X e g dg) (h2 : DGs X es gs dgs n) (hs : (assignEach (e :: es) X.env).map (·.2) = assign e X.env :: (assignEach es X.env).map (·.2) := by rfl) : DGs X (e :: es) (L2.gCons g gs) (gsCons dg dgs) (n + 1) :=
  ⟨pgs_cons h1.pg h2.pg hs, gso_cons h1.ok h2.ok, gms_cons h1.mono h2.mono, gsCons_len h2.len⟩
theorem dg_tup {W : WX} (c : Ctx X W k) {gs : TGs} {dgs : List PV → Env → Option Env} {n : Nat} (h : DGs X es gs dgs n) (hn : (assignEach es X.env).length = n := by rfl) (hst : (assignEach es X.env).findIdx? (·.1) = none := by rfl) : DG X (.Tuple es kk pos) (L2.gTup X.K n gs) (gTup dgs) :=
  ⟨pg_tup c.calm h.pg hn hst, go_tup h.ok h.len, gm_tup h.mono⟩

/-! ### comprehensions -/
structure LG (K : PySem.W.Frag) (own : List Nat) (g : TG) (dg : DenG) : Prop where
  ok : GOk K g dg
  mono : GMono g
  w : TgW own g
structure LGs (K : PySem.W.Frag) (own : List Nat) (g : TGs) (dg : List PV → Env → Option Env) (n : Nat) : Prop where
  ok : GsOk K g dg
  mono : GsMono g
  len : ∀ ps ρ ρ', dg ps ρ = some ρ' → ps.length = n
  w : TgsW own g
theorem lg_name {K : PySem.W.Frag} {own : List Nat} (i : Nat) (h : i ∈ own := by decide) : LG K own (L2.gName i) (gName i) := ⟨go_name, gm_name, tw_name h⟩
theorem lgs_nil {K : PySem.W.Frag} {own : List Nat} : LGs K own L2.gNil gsNil 0 := ⟨gso_nil, gms_nil, gsNil_len, tws_nil⟩
theorem lgs_cons {K : PySem.W.Frag} {own : List Nat} {gs : TGs} {dgs : List PV → Env → Option Env} {n : Nat} (i : Nat) (h2 : LGs K own gs dgs n) (h : i ∈ own := by decide) : LGs K own (L2.gCons (L2.gName i) gs) (gsCons (gName i) dgs) (n + 1) :=
  ⟨gso_cons go_name h2.ok, gms_cons gm_name h2.mono, gsCons_len h2.len, tws_name h h2.w⟩
theorem lg_tup {K : PySem.W.Frag} {own : List Nat} {gs : TGs} {dgs : List PV → Env → Option Env} {n : Nat} (h : LGs K own gs dgs n) : LG K own (L2.gTup K n gs) (gTup dgs) := ⟨go_tup h.ok h.len, gm_tup h.mono, tw_tup h.w⟩
def bYes : DenB := fun ρ => .ok true ρ
theorem dts_nil : DTs X W [] bYes := DTs.of pts_nil fun H₀ S₀ M S σ H ρ Q ab hp => hp true S H ab rfl
theorem dts_one {dt : DenB} (h : DT X W e dt) : DTs X W [e] dt := DTs.of (pts_one h) canon_ok
theorem df_lc {elt tg iter : Expr} {ifs : List Expr} {scope : Scope} {g : TG} {dg : DenG} {dt : DenB} {de : Den} (own : List (Str × Nat)) (c : Ctx X W k) (hi : DI X W tg iter dl) (hl : LG X.K (own.map (·.2)) g dg)
    (hg : ∀ (s : Shared) (H : Hp) (C : Addr) (cl : List (Str × Addr)) (fp : List Addr), DG (X.blk s H scope (PySem.compEnvC scope cl C X.env) fp) tg g dg) (ht : ∀ (s : Shared) (H : Hp) (C : Addr) (cl : List (Str × Addr)) (fp : List Addr), DTs (X.blk s H scope (PySem.compEnvC scope cl C X.env) fp) (fun _ _ _ _ => False) ifs dt)
    (he : ∀ (s : Shared) (H : Hp) (C : Addr) (cl : List (Str × Addr)) (fp : List Addr), DE (X.blk s H scope (PySem.compEnvC scope cl C X.env) fp) (fun _ _ _ _ => False) elt de) (ok : BlkOk X.N X.env.scope scope own := by exact blkOk_by (by decide +kernel)) (hs : ∀ x, foldedSetIterable iter X.env x = pure x := by intro _; rfl) :
    DF X W (.ListComp elt [⟨tg, iter, ifs, 0⟩] scope pos) (dLc (own.map (·.2)) dl dg dt de) :=
  DF.of (pe_lc c.calm c.nd hi ok (fun s H C cl fp => (hg s H C cl fp).pg) ht he hs) (fo_lc canon_ok hl.ok hl.w hl.mono canon_ok canon_ok)

/-! ### statements -/
variable {st : Stmt} {sts rest s2 : List Stmt} {d1 d2 : DenS} {du : DenB} {db : Den}
theorem dss_nil : DSs X W fr [] sNx := DSs.of pss_nil so_nx
theorem dss_cons (h1 : DS X W fr st d1) (h2 : DSs X W fr rest d2) : DSs X W fr (st :: rest) (sSeq d1 d2) := DSs.of (pss_cons h1 h2) (so_seq canonS_ok canonS_ok)
theorem dss_one (h1 : DS X W fr st d1) : DSs X W fr [st] d1 := pss_one h1
theorem ds_pass : DS X W fr (.Pass pos) sNx := DS.of ps_pass so_nx
theorem ds_brk : DS X W fr (.Break pos) sBk := DS.of ps_break so_bk
theorem ds_cont : DS X W fr (.Continue pos) sCt := DS.of ps_continue so_ct
theorem ds_expr (h : DE X W e da) (hs : swapsWith e none pos.line X.env = pure false := by rfl) : DS X W fr (.Expr e pos) (sExpr da) := DS.of (ps_expr h hs) (so_expr canon_ok)
theorem ds_ret (h : DE X W e da) : DS X W false (.Return (some e) pos) (sRet da) := DS.of (ps_ret h) (so_ret canon_ok)
theorem ds_retF (h : DF X W e da) : DS X W true (.Return (some e) pos) (sRet da) := DS.of (ps_ret h) (so_retF canon_ok)
theorem ds_retO (i : Nat) (h : PE X (.Name x p) (tVar i)) : DS X W true (.Return (some (.Name x p)) pos) (sRetO i) := DS.of (ps_ret h) so_retO
theorem ds_retN : DS X W false (.Return none pos) sRetN := DS.of ps_retN so_retN
theorem ds_if (hc : DT X W e du) (h1 : DSs X W fr sts d1) (h2 : DSs X W fr s2 d2) : DS X W fr (.If e sts s2 pos) (sIf du d1 d2) := DS.of (ps_if hc h1 h2) (so_if canon_ok canonS_ok canonS_ok)
theorem ds_set (c : Ctx X W k) (i : Nat) (h : DE X W e da) (hi : X.N[i]? = some x := by rfl) (hx : Loc X.env.scope x := by first | exact Or.inl rfl | exact Or.inr rfl) (hs : swapsWith e (some (.Name x p)) pos.line X.env = pure false := by rfl) (hf : X.fn x = true ∨ X.env.scope.names.lookup x = some .local := by first | exact .inl rfl | exact .inr rfl) :
    DS X W fr (.Assign [.Name x p] e pos) (sSet i da) := DS.of (ps_set c.nd hi hx h hs hf) (so_set canon_ok)
theorem ds_setF (c : Ctx X W k) (i : Nat) (h : DF X W e da) (hi : X.N[i]? = some x := by rfl) (hx : Loc X.env.scope x := by first | exact Or.inl rfl | exact Or.inr rfl) (hs : swapsWith e (some (.Name x p)) pos.line X.env = pure false := by rfl) (hf : X.fn x = true ∨ X.env.scope.names.lookup x = some .local := by first | exact .inl rfl | exact .inr rfl) :
    DS X W fr (.Assign [.Name x p] e pos) (sSetF i da) := DS.of (ps_set c.nd hi hx h hs hf) (so_setF canon_ok)
/-- y = [..], y a plain local -/
theorem ds_setLcF {elt tg iter : Expr} {ifs : List Expr} {scope : Scope} {g : TG} {dg : DenG} {dt : DenB} {de : Den} (i : Nat) (own : List (Str × Nat)) (c : Ctx X W k) (hi : DI X W tg iter dl) (hl : LG X.K (own.map (·.2)) g dg)
    (hg : ∀ (s : Shared) (H : Hp) (C : Addr) (cl : List (Str × Addr)) (fp : List Addr), DG (X.blk s H scope (PySem.compEnvC scope cl C X.env) fp) tg g dg) (ht : ∀ (s : Shared) (H : Hp) (C : Addr) (cl : List (Str × Addr)) (fp : List Addr), DTs (X.blk s H scope (PySem.compEnvC scope cl C X.env) fp) (fun _ _ _ _ => False) ifs dt)
    (he : ∀ (s : Shared) (H : Hp) (C : Addr) (cl : List (Str × Addr)) (fp : List Addr), DE (X.blk s H scope (PySem.compEnvC scope cl C X.env) fp) (fun _ _ _ _ => False) elt de) (hy : X.N[i]? = some x := by rfl) (hyl : X.env.scope.names.lookup x = some .local := by rfl)
    (hsw : swapsWith (.ListComp elt [⟨tg, iter, ifs, 0⟩] scope p2) (some (.Name x p)) pos.line X.env = pure true := by exact sw_true rfl rfl rfl (by decide +kernel)) (ok : BlkOk X.N X.env.scope scope own := by exact blkOk_by (by decide +kernel)) (hs : ∀ x, foldedSetIterable iter X.env x = pure x := by intro _; rfl) :
    DS X W fr (.Assign [.Name x p] (.ListComp elt [⟨tg, iter, ifs, 0⟩] scope p2) pos) (sSetF i (dLc (own.map (·.2)) dl dg dt de)) :=
  DS.of (ps_setLc c.calm c.nd hy hyl hsw hi ok (fun s H C cl fp => (hg s H C cl fp).pg) ht he hs) (so_setF (fo_lc canon_ok hl.ok hl.w hl.mono canon_ok canon_ok))
theorem ds_setLc {elt tg iter : Expr} {ifs : List Expr} {scope : Scope} {g : TG} {dg : DenG} {dt : DenB} {de : Den} (i : Nat) (own : List (Str × Nat)) (c : Ctx X W k) (hi : DI X W tg iter dl) (hl : LG X.K (own.map (·.2)) g dg)
    (hg : ∀ (s : Shared) (H : Hp) (C : Addr) (cl : List (Str × Addr)) (fp : List Addr), DG (X.blk s H scope (PySem.compEnvC scope cl C X.env) fp) tg g dg) (ht : ∀ (s : Shared) (H : Hp) (C : Addr) (cl : List (Str × Addr)) (fp : List Addr), DTs (X.blk s H scope (PySem.compEnvC scope cl C X.env) fp) (fun _ _ _ _ => False) ifs dt)
    (he : ∀ (s : Shared) (H : Hp) (C : Addr) (cl : List (Str × Addr)) (fp : List Addr), DE (X.blk s H scope (PySem.compEnvC scope cl C X.env) fp) (fun _ _ _ _ => False) elt de) (hy : X.N[i]? = some x := by rfl) (hyl : X.env.scope.names.lookup x = some .local := by rfl)
    (hsw : swapsWith (.ListComp elt [⟨tg, iter, ifs, 0⟩] scope p2) (some (.Name x p)) pos.line X.env = pure true := by exact sw_true rfl rfl rfl (by decide +kernel)) (ok : BlkOk X.N X.env.scope scope own := by exact blkOk_by (by decide +kernel)) (hs : ∀ x, foldedSetIterable iter X.env x = pure x := by intro _; rfl) :
    DS X W fr (.Assign [.Name x p] (.ListComp elt [⟨tg, iter, ifs, 0⟩] scope p2) pos) (sSet i (dLc (own.map (·.2)) dl dg dt de)) :=
  DS.of (ps_setLc c.calm c.nd hy hyl hsw hi ok (fun s H C cl fp => (hg s H C cl fp).pg) ht he hs) (so_set (fo_lc canon_ok hl.ok hl.w hl.mono canon_ok canon_ok).shared)
theorem ds_asg {g : TG} {dg : DenG} (h : DE X W e da) (hg : DG X tg g dg) (hs : swapsWithSole [tg] e pos.line X.env = pure false := by rfl) (hw : swappedStores [tg] e X.env = pure none := by rfl) (h1 : (assignEach [tg] X.env).map (·.2) = [assign tg X.env] := by rfl) :
    DS X W fr (.Assign [tg] e pos) (sAsg da dg) := DS.of (ps_asg h hg.pg hs hw h1) (so_asg canon_ok hg.ok)
/-- x[a] = e, x an owned list in a slot -/
theorem ds_sub (i : Nat) (ho : PE X (.Name x p) (tVar i)) (hi : DE X W a db) (h : DE X W e da)
    (ha : ∀ v, assign (.Subscript (.Name x p) a p2) X.env v = (do
      let ov ← holding [v] (eval (.Name x p) X.env)
      let iv ← holding [v, ov] (eval a X.env)
      standAt p2
      holding [v, ov, iv] (setItem ov iv v)
      release [v, ov, iv] []) := by intro _; rfl) (hs : swapsWithSole [.Subscript (.Name x p) a p2] e pos.line X.env = pure false := by rfl) (hw : swappedStores [.Subscript (.Name x p) a p2] e X.env = pure none := by rfl) (h1 : (assignEach [.Subscript (.Name x p) a p2] X.env).map (·.2) = [assign (.Subscript (.Name x p) a p2) X.env] := by rfl) :
    DS X W fr (.Assign [.Subscript (.Name x p) a p2] e pos) (sSub gSetL i db da) := DS.of (ps_asg h (pg_sub ho hi set_list ha) hs hw h1) (so_sub canon_ok canon_ok st_list)
def gAugAdd : PV → PV → Option PV
  | .int i, .int j => some (.int (i + j))
  | .str x, .str y => if x.length + y.length ≤ sizeLine then some (.str (x ++ y)) else none
  | _, _ => none
def rAugAdd : R2 := fun x y H Q => (∃ i j, x = .int i ∧ y = .int j ∧ Q (.int (i + j)) H) ∨ (∃ i j, x = .str i ∧ y = .str j ∧ i.length + j.length ≤ sizeLine ∧ Q (.str (i ++ j)) H)
theorem v2_augAdd {K : PySem.W.Frag} : V2 K rAugAdd gAugAdd := by
  intro S H x y p q z Q s rx ry e k
  unfold gAugAdd at e
  split at e
  · cases rx; cases ry; cases e
    exact .inl ⟨_, _, rfl, rfl, k _ S H (Step.refl s) (.int _)⟩
  · split at e
    · rename_i hz
      cases rx; cases ry; cases e
      exact .inr ⟨_, _, rfl, rfl, hz, k _ S H (Step.refl s) (.str _)⟩
    · cases e
  · cases e
theorem augAdd_sc : ∀ p q z, gAugAdd p q = some z → z.sc = true := by
  intro p q z e
  unfold gAugAdd at e
  split at e
  · cases e; rfl
  · split at e
    · cases e; rfl
    · cases e
  · cases e
theorem gSub_sc : ∀ p q z, gSub p q = some z → z.sc = true := by
  intro p q z e
  unfold gSub at e
  split at e
  · cases e; rfl
  · cases e
theorem pip_or {op : Operator} {r r' : TIp} (h : PIp X op r) (h' : PIp X op r') : PIp X op (fun x y H Q => r x y H Q ∨ r' x y H Q) := by
  intro pins s σ H x y v u Q I rx ry q
  rcases q with q | q
  · exact h pins s σ H x y v u Q I rx ry q
  · exact h' pins s σ H x y v u Q I rx ry q
theorem pip_add : PIp X .Add rAugAdd := pip_or (fun pins s σ H x y v u Q I rx ry q => iop_add pins s σ H x y v u Q I rx ry q) fun pins s σ H x y v u Q I rx ry q => iop_add_str pins s σ H x y v u Q I rx ry q
theorem ds_augAdd (c : Ctx X W k) (i : Nat) (h : DE X W e da) (hi : X.N[i]? = some x := by rfl) (hx : Loc X.env.scope x := by first | exact Or.inl rfl | exact Or.inr rfl) (hf : X.fn x = true ∨ X.env.scope.names.lookup x = some .local := by first | exact .inl rfl | exact .inr rfl) :
    DS X W fr (.AugAssign (.Name x p) .Add e pos) (sAug i gAugAdd da) := DS.of (ps_aug c.nd hi hx h pip_add hf) (so_aug canon_ok v2_augAdd augAdd_sc)
theorem ds_augSub (c : Ctx X W k) (i : Nat) (h : DE X W e da) (hi : X.N[i]? = some x := by rfl) (hx : Loc X.env.scope x := by first | exact Or.inl rfl | exact Or.inr rfl) (hf : X.fn x = true ∨ X.env.scope.names.lookup x = some .local := by first | exact .inl rfl | exact .inr rfl) :
    DS X W fr (.AugAssign (.Name x p) .Sub e pos) (sAug i gSub da) := DS.of (ps_aug c.nd hi hx h (fun pins s σ H x y v u Q I rx ry q => iop_sub pins s σ H x y v u Q I rx ry q) hf) (so_aug canon_ok v2_sub gSub_sc)
/-- what lets out what is raised -/
abbrev Po (X : Cx) : Prop := PassesOwn (model X.prog X.w) X.A X.env X.xe
theorem ds_for {g : TG} {dg : DenG} (hp : Po X) (c : Ctx X W k) (hi : DI X W tg e dl) (hg : DG X tg g dg) (hb : DSs X W fr sts d1) (hs : ∀ x, foldedSetIterable e X.env x = pure x := by intro _; rfl) : DS X W fr (.For tg e sts [] pos) (sFor dl dg d1) :=
  DS.of (ps_for hp c.calm hi hg.pg hb hs) (so_for canon_ok hg.ok canonS_ok)
theorem ds_while (μ : Env → Nat) (hp : Po X) (hc : DT X W e du) (hb : DSs X W fr sts d1) : DS X W fr (.While e sts [] pos) (sWhile μ du d1) :=
  DS.of (ps_while hp hc hb) (so_while canon_ok canonS_ok)
end
/-- THE RULE for a def, over pieces of syntax -/
theorem fd_ok {P : Program} {w : World} {K : PySem.W.Frag} {mg : Str → Option Value} {base : Heap} {x qual : Str} {st : Stmt} {f : Addr} {fd : FuncData} {N ps : List Str} {k : Nat} {io fr : Bool} {d : DenS} (F : Fun K x qual st f fd) (hm : mg x = some (.ref f)) (S : FnScope N ps (defScope st))
    (hb : Binds K fd ps []) (hl : ps.length ≤ N.length)
    (hbody : ∀ (cdv : Value) (A : Around) (outer : List PySem.Env) (s : Shared) (H : Hp) (E : XK), Ctx (cxOf (L2.CX P w) P w K mg base N qual (defScope st) f cdv A outer s H E) (fun cls dd _ H => E cls dd H) k → Po (cxOf (L2.CX P w) P w K mg base N qual (defScope st) f cdv A outer s H E) →
      DSs (cxOf (L2.CX P w) P w K mg base N qual (defScope st) f cdv A outer s H E) (fun cls dd _ H => E cls dd H) fr (defBody st) d) :
    Fd P w K mg base x (k + 1) io fr ps.length (runD io fr ps.length N.length d) := by
  refine ⟨⟨f, fd, ps, fn_ok F S hl fun cdv A outer s H E hr => ⟨_, hbody cdv A outer s H E ⟨rfl, S.nd, hr, takes_of rfl rfl rfl rfl⟩ (passes_of rfl), canonS_ok⟩, hm, F.kp, hb⟩, fun qs h => ?_⟩
  unfold runD at h
  by_cases e : qs.length = ps.length
  · exact e
  · rw [if_neg e] at h
    exact absurd rfl h
theorem Fd.eq {P : Program} {w : World} {K : PySem.W.Frag} {mg : Str → Option Value} {base : Heap} {x : Str} {k n : Nat} {io fr : Bool} {F G : List PV → FR} (h : Fd P w K mg base x k io fr n F) (e : ∀ ps, G ps ≠ .bad → F ps = G ps) : Fd P w K mg base x k io fr n G := by
  obtain ⟨f, fd, ps, h1, h2, h3, h4⟩ := h.ex
  exact ⟨⟨f, fd, ps, fn_eq h1 e, h2, h3, h4⟩, fun qs hq => h.len qs (by rw [e qs hq]; exact hq)⟩
end PL

set_option Elab.async false
set_option linter.all false
set_option maxRecDepth 100000
set_option maxHeartbeats 4000000
namespace PL
open PySem PySem.Spec L2
open PyProof.Rows hiding St
set_option autoImplicit false

/-! ### try with several clauses 'except x as n' that share the name n -/
/-- what stands behind a clause: the name's slot is empty -/
def gone (i : Nat) (D : Ends) : Ends := ⟨fun τ G => D.nx (τ.set i none) G, D.rt, fun τ G => D.bk (τ.set i none) G, fun τ G => D.ct (τ.set i none) G⟩
/-- a clause: its class, what its suite is worth -/
abbrev Clause := Value × (Addr → Value → Option Addr → TS)
def wCl (K : PySem.W.Frag) (out : WX) (D : Ends) (i : Nat) : List Clause → WX
  | [] => out
  | (c, ts) :: more => fun cls d τ G => ∃ hit, PySem.W.exmOne K cls c = some hit ∧
      (hit = true → ∀ a, G a = none → ts a cls d (gone i D) (τ.set i (some (.ref a))) G) ∧ (hit = false → wCl K out D i more cls d τ G)
inductive Clauses (X : Cx) (n : Str) : List ExceptHandler → List Clause → Prop
  | nil : Clauses X n [] []
  | cons {y : Str} {c : Value} {ts : Addr → Value → Option Addr → TS} {b : Stmt} {bs : List Stmt} {q q' : Pos} {hs : List ExceptHandler} {cl : List Clause} : Names X y c →
      (∀ (a : Addr) (ob : Obj) (cls : Value) (d : Option Addr) (pn : List (Addr × Obj)), Zc cls d ob → (∃ vs, ob.data = .fields vs) → PSs (X.suite a ((a, ob) :: pn)) (b :: bs) (ts a cls d)) →
      Clauses X n hs cl → Clauses X n (.ExceptHandler (some (.Name y q)) (some n) (b :: bs) q' :: hs) ((c, ts) :: cl)
section
variable {X : Cx} {n : Str} {i : Nat} {out : WX} {D : Ends} {pins : List (Addr × Obj)} {a : Addr} {B : Heap} {cls : Value} {d : Option Addr} {τ : L2.St} {G : Hp} {sI s' : Shared}
/-- where a caught exception stands: what its clauses lean on -/
structure Caught (X : Cx) (pins : List (Addr × Obj)) (a : Addr) (B : Heap) (cls : Value) (d : Option Addr) (τ : L2.St) (G : Hp) (sI s' : Shared) : Prop where
  inv : Inv X pins τ G sI
  ground : ∀ b o, sI.heap.get? b = some o → b ∉ frs X.stack → B.get? b = some o
  up : sI.heap.UpToSlots s'.heap
  na : G a = none
  os : s'.os = sI.os
  bare : AllBare s'.gens
theorem Caught.suite (k : Caught X pins a B cls d τ G sI s') (hstk : X.stack = X.env :: X.outer) (hfr : X.env.frame = some X.env.locals) {g : Heap} (fly : HandSPX.FlyingZ B (X.env :: X.outer) a (Zc cls d) g) (u : s'.heap.UpToSlots g) :
    ∃ ob, g.get? a = some ob ∧ Zc cls d ob ∧ (∃ vs, ob.data = .fields vs) ∧ Inv X pins τ G { s' with heap := g } ∧ Inv (X.suite a ((a, ob) :: (X.pn ++ pins))) [] τ G { s' with heap := g } := by
  have J : Inv X pins τ G { s' with heap := g } := k.inv.landed (s' := { s' with heap := g }) k.ground fly.1 (k.up.trans u) k.os k.bare
  obtain ⟨ob, vs, e1, e2, e3⟩ := fly.there
  have far : a ∉ frs (X.env :: X.outer) := fun m => by
    obtain ⟨_, o2, z1, z2⟩ := fly.2.2.1.mem m
    rw [e1] at z1
    cases z1
    exact z2 _ e3
  refine ⟨ob, e1, e2, ⟨vs, e3⟩, J, J.suite e1 e3 k.na (fun z => far ?_) fun m => far ?_⟩
  · exact List.mem_filterMap.mpr ⟨X.env, List.mem_cons_self, by rw [hfr, z]⟩
  · obtain ⟨env, m1, m2⟩ := List.mem_filterMap.mp m
    exact List.mem_filterMap.mpr ⟨env, List.mem_cons_of_mem _ m1, m2⟩
theorem clauses_run (hN : X.N.Nodup) (hi : X.N[i]? = some n) (hln : X.env.kindOf n = some .local) (hstk : X.stack = X.env :: X.outer) (hfr : X.env.frame = some X.env.locals) (tk : Takes X out)
    (k : Caught X pins a B cls d τ G sI s') {g : Heap} (fly : HandSPX.FlyingZ B (X.env :: X.outer) a (Zc cls d) g) (u : s'.heap.UpToSlots g) {hs : List ExceptHandler} {cl : List Clause} (h : Clauses X n hs cl) :
    wCl X.K out D i cl cls d τ G → wpAny (model X.prog X.w) X.A (handleBy (.ref a) X.env hs) (SP X pins D) X.xe { s' with heap := g } := by
  obtain ⟨ob, e1, e2, e3, J, JS⟩ := k.suite hstk hfr fly u
  induction h with
  | nil =>
    intro w
    refine wpAny_handleBy_nil ?_
    obtain ⟨_, _, _, o1, flds, T, _, _, f1, _, f2, f3, _⟩ := id fly
    unfold PySem.passOn
    refine wpAny_bind (PySem.wpAny_field f1 f2 f3 ?_)
    have nn : ¬ ((Value.ref T == Value.none) = true) := by simp
    rw [if_neg nn]
    have again : wpAny (model X.prog X.w) X.A (setFlight (.ref a) X.env.frame) (fun _ s4 => wpAny (model X.prog X.w) X.A (throw (.ref a) : Sem Flow) (SP X pins D) X.xe s4) X.xe { s' with heap := g } := by
      rw [hfr]
      refine HandSPX.setFlight_upZ fly fun g2 held u2 => wpAny_throw (tk _ _ ?_)
      refine ⟨a, B, sI, pins, τ, G, cls, d, rfl, k.inv, k.ground, (k.up.trans u).trans u2, .inr (.inr ?_), k.na, k.os, k.bare, w⟩
      rw [hstk]
      exact held
    first
      | exact wpAny_bind (wpAny_pure (wpAny_bind again))
      | exact wpAny_bind again
  | @cons y c ts b bs q q' more cl' names suite _ ih =>
    rintro ⟨hit, exm, yes, no⟩
    refine wpAny_handleBy_cons (codeAny_handlers_test ?_) (by intro z; cases z)
    have ty : PySem.W.Looks (model X.prog X.w) g (typeOf (.ref a)) cls := fun A Q E s kk qq => PySem.wpAny_typeOf_ref (kk _ _ e1) (by rw [e2.1]; exact qq)
    have look := PySem.W.exm_one (M := model X.prog X.w) J.kIn ty exm
    have named : ∀ {Q : Value → Shared → Prop} {E : Value → Shared → Prop}, Q c { s' with heap := g } → wpAny (model X.prog X.w) (X.A.mark (some (.ref a))) (eval (.Name y q) X.env) Q E { s' with heap := g } := fun {Q E} qq => by
      obtain ⟨g1, g2, g3⟩ := names
      rcases g3 with g3 | ⟨g3, g4, g5⟩
      · exact ld_glob (X := X.suite a ((a, ob) :: (X.pn ++ pins))) JS g1 g3 qq g2
      · exact ld_blt (X := X.suite a ((a, ob) :: (X.pn ++ pins))) JS g1 g3 g4 qq g5 g2
    refine named (look.here ?_)
    cases hit with
    | false => exact ih (no rfl)
    | true =>
      refine codeAny_handlers_suite_as (HandSPX.lands_againZ fly fun g2 fly2 u2 => ?_)
      obtain ⟨ob2, _, z2, z3, _, JS2⟩ := k.suite hstk hfr fly2 (u.trans u2)
      refine store_ok (X := X.suite a ((a, ob2) :: (X.pn ++ pins))) (v := .ref a) JS2 hN hi (.inl hln) rfl (fun s5 J5 => ?_) (.inr hln)
      have body := (suite a ob2 cls d (X.pn ++ pins) z2 z3).run [] s5 _ G _ J5 (yes rfl a k.na)
      refine wpAny_mono body (fun f s6 sp => ?_) fun _ _ z => z.elim
      have leave : ∀ {τ6 : L2.St} {G6 : Hp} {Q : Shared → Prop}, Inv (X.suite a ((a, ob2) :: (X.pn ++ pins))) [] τ6 G6 s6 → (∀ s7, Inv X pins (τ6.set i none) G6 s7 → Q s7) →
          wpAny (model X.prog X.w) X.A (do bindName X.env n .none; unbindBehindTheSuite X.env n q') (fun _ s7 => Q s7) X.xe s6 := fun J6 hq => gone_ok (J6.unsuite k.inv.ok) hN hi hln hq
      match f, sp with
      | .next, ⟨_, _, J6, q6⟩ => exact leave J6 fun s7 J7 => ⟨_, _, J7, q6⟩
      | .brk, ⟨_, _, J6, q6⟩ => exact leave J6 fun s7 J7 => ⟨_, _, J7, q6⟩
      | .cont, ⟨_, _, J6, q6⟩ => exact leave J6 fun s7 J7 => ⟨_, _, J7, q6⟩
      | .ret v, ⟨_, _, _, J6, r6, q6⟩ => exact leave J6 fun s7 J7 => ⟨_, _, _, J7, r6, q6⟩
theorem ps_tryN {body : List Stmt} {h₀ : ExceptHandler} {hs : List ExceptHandler} {cl : List Clause} {pos : Pos} {tb : WX → TS} (hN : X.N.Nodup) (hi : X.N[i]? = some n) (hln : X.env.kindOf n = some .local) (hstk : X.stack = X.env :: X.outer) (hfr : X.env.frame = some X.env.locals) (tk : Takes X out)
    (hb : ∀ (W : WX) (pn : List (Addr × Obj)) (xe : Value → Shared → Prop), Takes (X.tr pn xe) W → PassesOwn (model X.prog X.w) X.A X.env xe → PSs (X.tr pn xe) body (tb W)) (hh : Clauses X n (h₀ :: hs) cl) :
    PS X (.Try body (h₀ :: hs) [] [] pos) (fun D σ H => tb (wCl X.K out D i cl) D σ H) := ⟨fun pins s σ H D I h => by
  have ok := I.ok
  let caught : Value → Shared → Prop := fun e s₁ => wpAny (model X.prog X.w) X.A (noteFrame e X.env) (fun _ s₂ => wpAny (model X.prog X.w) X.A (setFlight e none) (fun _ s₃ => wpAny (model X.prog X.w) X.A (handleBy e X.env (h₀ :: hs)) (SP X pins D) X.xe s₃) X.xe s₂) X.xe s₁
  have takes : Takes (X.tr (X.pn ++ pins) caught) (wCl X.K out D i cl) := by
    rintro e s' ⟨a, B, sI, pn, τ, G, cls, d, rfl, J, nb, up, sky, na, os, ag, w⟩
    have sky' : Sky B (X.env :: X.outer) a (Zc cls d) X.env.locals s'.heap := hstk ▸ sky
    show wpAny (model X.prog X.w) X.A (noteFrame (.ref a) X.env) _ _ _
    exact Sky.land Zc.steady (by rw [ok.frames, hstk]) hfr sky' fun g fly u => clauses_run hN hi hln hstk hfr tk ⟨J.ofTry ok, nb, up, na, os, ag⟩ fly u hh w
  refine wpAny_Try_except (wpAny_mono ((hb _ (X.pn ++ pins) caught takes PassesOwn.looking).run [] s σ H D (I.toTry caught) h) (fun f s1 sp => ?_) fun e s1 he => he)
  match f, sp with
  | .next, ⟨_, _, J, q⟩ => exact wpAny_execs_nil ⟨_, _, J.ofTry ok, q⟩
  | .brk, ⟨_, _, J, q⟩ => exact ⟨_, _, J.ofTry ok, q⟩
  | .cont, ⟨_, _, J, q⟩ => exact ⟨_, _, J.ofTry ok, q⟩
  | .ret v, ⟨_, _, _, J, r, q⟩ => exact ⟨_, _, _, J.ofTry ok, r, q⟩⟩
end
end PL

set_option Elab.async false
set_option linter.all false
set_option maxRecDepth 100000
set_option maxHeartbeats 4000000
namespace PL
open PySem PySem.Spec L2
open PyProof.Rows hiding St
set_option autoImplicit false

/-! ### error classes of the program's own, and what the written part says of them -/
def oexB (K : PySem.W.Frag) (C : Addr) : Bool := match K.lookup C with
  | some ⟨.type "type", _, .cls cd, sl⟩ => (match cd.mro, sl.toList with
    | .ref C' :: bm, [_, _, _, _, some (.builtin n), _] => C' == C && n == "ValueError.__new__" && !cd.hasDel && cd.hasDict && PySem.HandSPX.refsVE bm
    | _, _ => false)
  | _ => false
theorem oexB_ok {K : PySem.W.Frag} {C : Addr} (h : oexB K C = true) (sa : PySem.W.findIn K (.ref C) "__setattr__" = some (some (.builtin "object.__setattr__"))) (ex : PySem.W.subIn K (.ref C) (.type "BaseException") = some true) (ty : PySem.W.typeIn K (.ref C) = some (.type "type")) (kp : PySem.W.keepIn K (.ref C) = true) : OexC K C := by
  refine ⟨?_, sa, ex, ty, kp⟩
  unfold oexB at h
  split at h
  · rename_i dd cd sl ho
    split at h
    · rename_i C' bm k0 k1 k2 k3 n k5 hm hs
      simp only [Bool.and_eq_true, beq_iff_eq, Bool.not_eq_true'] at h
      obtain ⟨⟨⟨⟨rfl, rfl⟩, hdel⟩, hdct⟩, hr⟩ := h
      obtain ⟨nm, bs, mro, ns, qn, hd, sn, sub, ab, col, del⟩ := cd
      dsimp only at hm hdel hdct
      subst hm hdel hdct
      have hsl : sl = #[k0, k1, k2, k3, some (.builtin "ValueError.__new__"), k5] := by
        obtain ⟨l⟩ := sl
        simp only at hs
        rw [hs]
      subst hsl
      exact ⟨_, _, _, _, _, _, _, _, _, _, _, _, _, _, _, ho, hr⟩
    · cases h
  · cases h
/-- the error class x with one field -/
def ecB (K : PySem.W.Frag) (x fld : Str) : Bool :=
  He.eqO (PySem.W.nsIn K mainGlobals x) (some (some (.ref (He.ga K x)))) && (oexB K (He.ga K x) && (He.eqO (PySem.W.findIn K (.ref (He.ga K x)) "__setattr__") (some (some (.builtin "object.__setattr__"))) &&
    (decide (PySem.W.subIn K (.ref (He.ga K x)) (.type "BaseException") = some true) && (decide (PySem.W.typeIn K (.ref (He.ga K x)) = some (.type "type")) && (PySem.W.keepIn K (.ref (He.ga K x)) &&
    (He.eqO (PySem.W.findIn K (.ref (He.ga K x)) "__init__") (some (some (.ref (He.ma K (He.ga K x) "__init__")))) && (decide (PySem.W.typeIn K (.ref (He.ma K (He.ga K x) "__init__")) = some (.type "function")) &&
    (He.eqO (PySem.W.findIn K (.ref (He.ga K x)) fld) (some none) && xfB K (He.ga K x)))))))))
structure EcK (K : PySem.W.Frag) (x fld : Str) : Prop where
  ns : PySem.W.nsIn K mainGlobals x = some (some (.ref (He.ga K x)))
  oex : OexC K (He.ga K x)
  ini : PySem.W.findIn K (.ref (He.ga K x)) "__init__" = some (some (.ref (He.ma K (He.ga K x) "__init__")))
  ity : PySem.W.typeIn K (.ref (He.ma K (He.ga K x) "__init__")) = some (.type "function")
  fld : PySem.W.findIn K (.ref (He.ga K x)) fld = some none
  xf : XfC K (He.ga K x)
theorem ecB_ok {K : PySem.W.Frag} {x fld : Str} (h : ecB K x fld = true) : EcK K x fld := by
  unfold ecB at h
  simp only [Bool.and_eq_true] at h
  obtain ⟨h1, h2, h3, h4, h5, h6, h7, h8, h9, h10⟩ := h
  exact ⟨He.eqO_ok h1, oexB_ok h2 (He.eqO_ok h3) (of_decide_eq_true h4) (of_decide_eq_true h5) h6, He.eqO_ok h7, of_decide_eq_true h8, He.eqO_ok h9, xfB_ok h10⟩
/-- the base class x: its __init__ is ValueError's -/
def peB (K : PySem.W.Frag) (x : Str) : Bool :=
  He.eqO (PySem.W.nsIn K mainGlobals x) (some (some (.ref (He.ga K x)))) && (He.eqO (PySem.W.specialIn K (.ref (He.ga K x)) "__getattribute__") (some (some (.builtin "type.__getattribute__"))) &&
    (PySem.W.readsIn K (He.ga K x) (.type "type") && (match PySem.W.findCls K (.ref (He.ga K x)) (.type "type") "__init__" with
      | some (.val (.builtin n)) => n == "ValueError.__init__"
      | _ => false)))
structure PeK (K : PySem.W.Frag) (x : Str) : Prop where
  ns : PySem.W.nsIn K mainGlobals x = some (some (.ref (He.ga K x)))
  ga : PySem.W.specialIn K (.ref (He.ga K x)) "__getattribute__" = some (some (.builtin "type.__getattribute__"))
  rd : PySem.W.readsIn K (He.ga K x) (.type "type") = true
  at_ : PySem.W.findCls K (.ref (He.ga K x)) (.type "type") "__init__" = some (.val (.builtin "ValueError.__init__"))
theorem peB_ok {K : PySem.W.Frag} {x : Str} (h : peB K x = true) : PeK K x := by
  unfold peB at h
  simp only [Bool.and_eq_true] at h
  obtain ⟨h1, h2, h3, h4⟩ := h
  refine ⟨He.eqO_ok h1, He.eqO_ok h2, h3, ?_⟩
  split at h4
  · rename_i n e
    rw [e, beq_iff_eq.mp h4]
  · cases h4
def exmB (K : PySem.W.Frag) (L : List Str) : Bool := L.all fun a => L.all fun b => decide (PySem.W.exmOne K (.ref (He.ga K a)) (.ref (He.ga K b)) = some (decide (a = b)))
theorem exmB_ok {K : PySem.W.Frag} {L : List Str} (h : exmB K L = true) {a b : Str} (ha : a ∈ L) (hb : b ∈ L) : PySem.W.exmOne K (.ref (He.ga K a)) (.ref (He.ga K b)) = some (decide (a = b)) :=
  of_decide_eq_true (List.all_eq_true.mp (List.all_eq_true.mp h a ha) b hb)

/-! ### their making -/
section
variable {X : Cx} {W : WX} {fr : Bool} {k : Nat}
/-- Base.__init__(self, ..), the base a class of the program's own that has ValueError's -/
theorem pe_baseinit {x : Str} {p1 p2 pos : Pos} {e : Expr} {es : List Expr} {ta : TA} {pl : Sem Bool} (T : PeK X.K x) (hg : Gl X x) (hm : X.mg x = some (.ref (He.ga X.K x))) (ha : PA X (e :: es) ta)
    (hc : eval (.Call (.Attribute (.Name x p1) "__init__" p2) (e :: es) [] pos) X.env = (do
      let ov ← eval (.Name x p1) X.env
      standAt p2.atName
      let (f, first) ← holding [ov] (getMethod ov "__init__" pl)
      callWith pos f first (backTo pos (starEach (e :: es) X.env)) (backToKw pos (keywordEach [] X.env))) := by rfl)
    (he : starEach (e :: es) X.env = (false, eval e X.env) :: starEach es X.env := by rfl) (hpl : (backTo pos (starEach es X.env)).any (·.1) = false := by rfl) (hdb : (x == ("__debug__" : Str)) = false := by decide) :
    PE X (.Call (.Attribute (.Name x p1) "__init__" p2) (e :: es) [] pos) (tVeI X.K ta) := ⟨fun pins s σ H Q I h => by
  refine PySem.W.methodCall_KW (ld_glob I hg hm ?_ hdb) hc
  refine PySem.W.method_cls I.kIn T.ga (PySem.W.cls_value I.kIn T.rd T.at_ (by decide +kernel) ?_)
  refine PyProof.Rows.callWith_method1 (thn (ha.run pos pins _ σ H _ (I.tok _) h) fun us s1 r => ?_) he hpl
  obtain ⟨vs, H1, I1, rv, a, C, ws, ev, hl, O, ea, q⟩ := r
  subst ev
  cases rv with
  | cons r1 r2 =>
    cases r1
    refine oinit_ok O I1 ea ?_ fun s' J => ⟨.non, H1, J, rfl, q⟩
    have z := Paired.length r2
    rw [sizeLine_eq]
    omega⟩
def spI (K : PySem.W.Frag) (fld : Str) : Sp := fun vs H Q _ => ∃ (a C : Addr) (z : Str), vs = [.ref a, .str z] ∧ z.length ≤ 1000 ∧ OexC K C ∧ PySem.W.findIn K (.ref C) fld = some none ∧ H a = some (exo a C none) ∧
  ∀ dx, H dx = none → dx ≠ a → Q .non (upd (upd H dx (exd dx [(fld, .str z)])) a (exo a C (some dx)))
/-- an error class is made so -/
structure Ec (P : Program) (w : World) (K : PySem.W.Frag) (mg : Str → Option Value) (base : Heap) (x fld : Str) : Prop where
  k : EcK K x fld
  at_ : mg x = some (.ref (He.ga K x))
  ok : ∃ (fd : FuncData) (ps : List Str), FnOk P w K mg base (L2.CX P w) 1 (He.ma K (He.ga K x) "__init__") fd ps (spI K fld) ∧ Binds K fd ps []
def sRaise (x fld : Str) (da : Den) : DenS := fun ρ => (da ρ).bindS fun p ρ1 => match p with
  | .str z => if z.length ≤ 1000 then .exc ⟨x, fld, .str z⟩ ρ1 else .bad
  | _ => .bad
theorem ds_raise {x fld : Str} {e : Expr} {p pos pos2 : Pos} {da : Den} (E : Ec X.prog X.w X.K X.mg X.base x fld) (c : Ctx X W k) (ha : DE X W e da) (hk : 2 ≤ k := by decide) (hg : Gl X x := by rfl) (hdb : (x == ("__debug__" : Str)) = false := by decide)
    (he : starEach [e] X.env = (false, eval e X.env) :: starEach [] X.env := by rfl) (hpl : (backTo pos (starEach [] X.env)).any (·.1) = false := by rfl) : DS X W fr (.Raise (some (.Call (.Name x p) [e] [] pos)) none pos2) (sRaise x fld da) := by
  obtain ⟨fd, ps, ok, hb⟩ := E.ok
  refine DS.of (ps_raise c.calm c.tk (pmk_oex E.k.oex E.k.ini E.k.ity ok (c.room.mono hk) hb .nil passL hg E.at_ (pa_cons ha pa_nil he) hdb he hpl)) fun H₀ S₀ M S σ H ρ D ab hp => ?_
  refine XOk.bindS (Rl := rV X.K) canon_ok ab hp fun q ρ1 v S1 H1 _ a1 _ r1 hp => ?_
  cases q with
  | str z =>
    have hp : SPost X.K X.mg W fr H₀ S₀ M (if z.length ≤ 1000 then .exc ⟨x, fld, .str z⟩ ρ1 else .bad) D := hp
    by_cases hz : z.length ≤ 1000
    · rw [if_pos hz] at hp
      cases r1
      refine ⟨by simp, fun a ha => ⟨a, He.ga X.K x, z, rfl, hz, E.k.oex, E.k.fld, upd_same, fun dx hd hne => ⟨rfl, dx, [(fld, .str z)], upd_same, ?_, ?_, ?_⟩⟩⟩
      · rw [upd_ne hne, upd_same]
      · rw [upd_ne hne] at hd
        exact hd
      · rw [upd_ne hne] at hd
        have e1 : upd (del (upd (upd (upd H1 a (exo a (He.ga X.K x) none)) dx (exd dx [(fld, .str z)])) a (exo a (He.ga X.K x) (some dx))) a) dx (.xd [(fld, .str z)]) = upd H1 dx (.xd [(fld, .str z)]) := by
          funext b
          by_cases h1 : b = dx
          · subst h1; rw [upd_same, upd_same]
          · rw [upd_ne h1, upd_ne h1]
            by_cases h2 : b = a
            · subst h2; rw [del_same, ha]
            · rw [del_ne h2, upd_ne h2, upd_ne h1, upd_ne h2]
        rw [e1]
        exact hp _ _ S1 σ _ (a1.step (Step.hid a1.sub hd)) ⟨_, dx, .str z, E.at_, rfl, rfl, upd_same, .str z⟩
    · rw [if_neg hz] at hp
      exact hp.elim
  | _ => exact hp.elim

/-! ### try: .. except X as n: return n.field .. -/
def sTry (cs : List Str) (fld : Str) (i : Nat) (body : DenS) : DenS := fun ρ => match body ρ with
  | .exc x ρ1 => if (cs.contains x.cls && decide (x.fld = fld)) && decide (i < ρ1.length) then .rt x.val (ρ1.set i .un) else .bad
  | r => r
theorem clause_in {K : PySem.W.Frag} {mg : Str → Option Value} {L : List Str} {out : WX} {D : Ends} {i : Nat} {x : Exn} {S0 : Hp} {cls : Value} {d : Option Addr} {σ : L2.St} {G : Hp} {fld : Str} (ex : exmB K L = true) (hmg : ∀ y ∈ L, mg y = some (.ref (He.ga K y))) (hx : x.cls ∈ L) (re : ExcRep K mg S0 G x cls d) (hf : x.fld = fld) (hi : i < σ.length) (hD : ∀ v, Rep K S0 x.val v → D.rt v G) :
    ∀ (cs : List Str), (∀ y ∈ cs, y ∈ L) → x.cls ∈ cs → wCl K out D i (cs.map fun y => (.ref (He.ga K y), fun a cls d => tRet (tXf a cls d (He.ga K y) fld (tVar i)))) cls d σ G := by
  obtain ⟨C, dx, v, h1, h2, h3, h4, h5⟩ := re
  have eC : C = He.ga K x.cls := by
    have z := hmg _ hx
    rw [h1] at z
    cases z
    rfl
  subst eC
  subst h2
  intro cs
  induction cs with
  | nil => intro _ h; cases h
  | cons y r ih =>
    intro hs h
    refine ⟨decide (x.cls = y), exmB_ok ex hx (hs y List.mem_cons_self), fun hit a _ => ?_, fun hit => ?_⟩
    · have e : x.cls = y := of_decide_eq_true hit
      subst e
      refine ⟨.ref a, List.getElem?_set_self hi, rfl, rfl, dx, [(x.fld, v)], v, h3, h4, ?_, hD v h5⟩
      rw [← hf]
      simp [List.lookup]
    · have ne : x.cls ≠ y := of_decide_eq_false hit
      exact ih (fun z hz => hs z (List.mem_cons_of_mem _ hz)) (by
        rcases List.mem_cons.mp h with e | e
        · exact absurd e ne
        · exact e)
theorem ds_try {body : List Stmt} {h₀ : ExceptHandler} {hs : List ExceptHandler} {pos : Pos} {n fld : Str} {d : DenS} (L cs : List Str) (i : Nat) (ex : exmB X.K L = true) (hmg : ∀ y ∈ L, X.mg y = some (.ref (He.ga X.K y))) (c : Ctx X W k)
    (hb : ∀ (W' : WX) (pn : List (Addr × Obj)) (xe : Value → Shared → Prop), Ctx (X.tr pn xe) W' k → Po (X.tr pn xe) → DSs (X.tr pn xe) W' false body d) (hcl : Clauses X n (h₀ :: hs) (cs.map fun y => (.ref (He.ga X.K y), fun a cls d => tRet (tXf a cls d (He.ga X.K y) fld (tVar i)))))
    (hsub : ∀ y ∈ cs, y ∈ L := by decide) (hi : X.N[i]? = some n := by rfl) (hln : X.env.kindOf n = some .local := by rfl) (hstk : X.stack = X.env :: X.outer := by rfl) (hfr : X.env.frame = some X.env.locals := by rfl) :
    DS X W false (.Try body (h₀ :: hs) [] [] pos) (sTry cs fld i d) := by
  have hlen : i < X.N.length := (List.getElem?_eq_some_iff.mp hi).1
  have P := ps_tryN (pos := pos) (out := W) c.nd hi hln hstk hfr c.tk (tb := fun W' => canonS X.K X.mg W' false d) (fun W' pn xe tk po => hb W' pn xe ⟨c.calm, c.nd, c.room, tk⟩ po) hcl
  refine ⟨fun pins s σ H D I q => P.run pins s σ H D I ?_⟩
  obtain ⟨H₀, S₀, M, S, ρ, ab, hp⟩ := q
  have hl : ρ.length = X.N.length := by rw [ab.len]; exact I.len
  refine ⟨H₀, S₀, M, S, ρ, ab, ?_⟩
  unfold sTry at hp
  cases e : d ρ with
  | bad => rw [e] at hp; exact hp
  | nx ρ1 => rw [e] at hp; exact hp
  | bk ρ1 => rw [e] at hp; exact hp
  | ct ρ1 => rw [e] at hp; exact hp
  | rt p ρ1 => rw [e] at hp; exact hp
  | exc x ρ1 =>
    simp only [e] at hp
    by_cases hc : ((cs.contains x.cls && decide (x.fld = fld)) && decide (i < ρ1.length)) = true
    · rw [if_pos hc] at hp
      obtain ⟨hc0, hc3⟩ := (Bool.and_eq_true _ _).mp hc
      obtain ⟨hc1, hc2⟩ := (Bool.and_eq_true _ _).mp hc0
      have hm : x.cls ∈ cs := by simpa using hc1
      intro cls dd S' σ' H' a1 re
      have hlt : i < σ'.length := by rw [← a1.len]; exact of_decide_eq_true hc3
      refine clause_in ex hmg (hsub _ hm) re (of_decide_eq_true hc2) hlt (fun v rv => ?_) cs hsub hm
      refine hp v S' σ' H' (a1.forget ?_ fun j s ej hn => ?_) rv
      · rw [List.length_set]; exact a1.len
      · by_cases hj : j = i
        · subst hj
          rw [List.getElem?_set_self (by rw [a1.len]; exact hlt)] at ej
          cases ej
          exact absurd rfl hn
        · rw [List.getElem?_set_ne (Ne.symm hj)] at ej
          exact ⟨ej, rfl⟩
    · rw [if_neg hc] at hp
      exact hp.elim
end
end PL

set_option Elab.async false
set_option linter.all false
set_option maxRecDepth 100000
set_option maxHeartbeats 4000000
namespace PL
open PySem PySem.Spec L2
open PyProof.Rows hiding St
set_option autoImplicit false

/-! ### keys of dicts -/
abbrev KK := Key ⊕ List Key
def key? : PV → Option Key
  | .int i => some (.inl i)
  | .str x => some (.inr x)
  | _ => none
def keys? : List PV → Option (List Key)
  | [] => some []
  | p :: ps => (key? p).bind fun k => (keys? ps).map fun ks => k :: ks
def kk? : PV → Option KK
  | .tup ps => (keys? ps).map .inr
  | p => (key? p).map .inl
def kEq (p q : PV) : Bool := match kk? p, kk? q with
  | some a, some b => decide (a = b)
  | _, _ => false
theorem key?_keyPV (k : Key) : key? (keyPV k) = some k := by cases k <;> rfl
theorem key?_some {p : PV} {k : Key} (h : key? p = some k) : p = keyPV k := by
  cases p <;> simp [key?] at h <;> subst h <;> rfl
theorem keys?_map : ∀ ks : List Key, keys? (ks.map keyPV) = some ks
  | [] => rfl
  | k :: ks => by
    show (key? (keyPV k)).bind (fun k => (keys? (ks.map keyPV)).map fun ks => k :: ks) = _
    rw [key?_keyPV, keys?_map ks]
    rfl
theorem keys?_some : ∀ {ps : List PV} {ks : List Key}, keys? ps = some ks → ps = ks.map keyPV
  | [], _, h => by cases h; rfl
  | p :: ps, ks, h => by
    have h : (key? p).bind (fun k => (keys? ps).map fun ks => k :: ks) = some ks := h
    cases h1 : key? p with
    | none => rw [h1] at h; cases h
    | some k =>
      cases h2 : keys? ps with
      | none => rw [h1, h2] at h; cases h
      | some ks' =>
        rw [h1, h2] at h
        cases h
        rw [key?_some h1, keys?_some h2]
        rfl
theorem kk?_key (k : Key) : kk? (keyPV k) = some (.inl k) := by cases k <;> rfl
theorem kk?_keys (ks : List Key) : kk? (.tup (ks.map keyPV)) = some (.inr ks) := by
  show (keys? (ks.map keyPV)).map Sum.inr = _
  rw [keys?_map]
  rfl
/-- what a dict holds at a key -/
def dLook : List PV → List PV → PV → Option PV
  | k :: ks, v :: vs, q => if kEq k q = true then some v else dLook ks vs q
  | _, _, _ => none
/-- .. and with the key stored -/
def dPut : List PV → List PV → PV → PV → List PV × List PV
  | k :: ks, v :: vs, q, e => if kEq k q = true then (k :: ks, e :: vs) else ((k :: (dPut ks vs q e).1), (v :: (dPut ks vs q e).2))
  | _, _, q, e => ([q], [e])
section
variable {K : PySem.W.Frag} {S : Hp}
theorem Rep.keyV {k : Key} {v : V} (h : Rep K S (keyPV k) v) : v = kV k := by
  cases k <;> cases h <;> rfl
theorem RepL.keyVs : ∀ {ks : List Key} {vs : List V}, RepL K S (ks.map keyPV) vs → vs = ks.map kV
  | [], _, h => by cases h; rfl
  | k :: ks, _, h => by
    cases h with
    | cons h1 h2 => rw [Rep.keyV h1, RepL.keyVs h2]; rfl
theorem dLookK (k : Key) : ∀ {kvs : List (Key × V)} {ps : List PV} {p : PV}, RepL K S ps (kvs.map (·.2)) → dLook (kvs.map fun q => keyPV q.1) ps (keyPV k) = some p → ∃ v, valV kvs k = some v ∧ Rep K S p v
  | [], _, _, h, e => by cases h; cases e
  | (k', v) :: kvs, _, p, h, e => by
    cases h with
    | cons h1 h2 =>
      have e : (if kEq (keyPV k') (keyPV k) = true then some _ else dLook (kvs.map fun q => keyPV q.1) _ (keyPV k)) = some p := e
      have ek : kEq (keyPV k') (keyPV k) = decide (k' = k) := by
        unfold kEq
        rw [kk?_key, kk?_key]
        by_cases hk : k' = k
        · subst hk; simp
        · simp [hk]
      rw [ek] at e
      by_cases hk : k' = k
      · rw [if_pos (decide_eq_true hk)] at e
        cases e
        exact ⟨v, valV_pos hk, h1⟩
      · rw [if_neg (by simp [hk])] at e
        rw [valV_neg hk]
        exact dLookK k h2 e
theorem dLookKn (k : Key) : ∀ {kvs : List (Key × V)} {ps : List PV}, RepL K S ps (kvs.map (·.2)) → dLook (kvs.map fun q => keyPV q.1) ps (keyPV k) = none → valV kvs k = none
  | [], _, h, e => rfl
  | (k', v) :: kvs, _, h, e => by
    cases h with
    | cons h1 h2 =>
      have e : (if kEq (keyPV k') (keyPV k) = true then some _ else dLook (kvs.map fun q => keyPV q.1) _ (keyPV k)) = none := e
      have ek : kEq (keyPV k') (keyPV k) = decide (k' = k) := by
        unfold kEq
        rw [kk?_key, kk?_key]
        by_cases hk : k' = k
        · subst hk; simp
        · simp [hk]
      rw [ek] at e
      by_cases hk : k' = k
      · rw [if_pos (decide_eq_true hk)] at e
        cases e
      · rw [if_neg (by simp [hk])] at e
        rw [valV_neg hk]
        exact dLookKn k h2 e
theorem kEq_keys (a b : List Key) : kEq (.tup (a.map keyPV)) (.tup (b.map keyPV)) = decide (a = b) := by
  unfold kEq
  rw [kk?_keys, kk?_keys]
  by_cases hk : a = b
  · subst hk; simp
  · simp [hk]
theorem dLookT (k : List Key) : ∀ {kvs : List (List Key × V)} {ps : List PV} {p : PV}, RepL K S ps (kvs.map (·.2)) → dLook (kvs.map fun q => .tup (q.1.map keyPV)) ps (.tup (k.map keyPV)) = some p → ∃ v, valV kvs k = some v ∧ Rep K S p v
  | [], _, _, h, e => by cases h; cases e
  | (k', v) :: kvs, _, p, h, e => by
    cases h with
    | cons h1 h2 =>
      have e : (if kEq (.tup (k'.map keyPV)) (.tup (k.map keyPV)) = true then some _ else dLook (kvs.map fun q => .tup (q.1.map keyPV)) _ (.tup (k.map keyPV))) = some p := e
      rw [kEq_keys] at e
      by_cases hk : k' = k
      · rw [if_pos (decide_eq_true hk)] at e
        cases e
        exact ⟨v, valV_pos hk, h1⟩
      · rw [if_neg (by simp [hk])] at e
        rw [valV_neg hk]
        exact dLookT k h2 e
theorem dLookTn (k : List Key) : ∀ {kvs : List (List Key × V)} {ps : List PV}, RepL K S ps (kvs.map (·.2)) → dLook (kvs.map fun q => .tup (q.1.map keyPV)) ps (.tup (k.map keyPV)) = none → valV kvs k = none
  | [], _, h, e => rfl
  | (k', v) :: kvs, _, h, e => by
    cases h with
    | cons h1 h2 =>
      have e : (if kEq (.tup (k'.map keyPV)) (.tup (k.map keyPV)) = true then some _ else dLook (kvs.map fun q => .tup (q.1.map keyPV)) _ (.tup (k.map keyPV))) = none := e
      rw [kEq_keys] at e
      by_cases hk : k' = k
      · rw [if_pos (decide_eq_true hk)] at e
        cases e
      · rw [if_neg (by simp [hk])] at e
        rw [valV_neg hk]
        exact dLookTn k h2 e
/-- the key's kind is the dict's -/
def kOk : Bool → PV → Bool
  | true, .tup _ => true
  | false, .int _ => true
  | false, .str _ => true
  | _, _ => false
/-- a dict shared or owned: looked up -/
inductive DRep (K : PySem.W.Frag) (S H : Hp) : Bool → List PV → List PV → Addr → Prop
  | k {a : Addr} {kvs : List (Key × V)} {ps : List PV} : H a = some (.dK kvs) → RepL K S ps (kvs.map (·.2)) → DRep K S H false (kvs.map fun p => keyPV p.1) ps a
  | t {a : Addr} {kvs : List (List Key × V)} {ps : List PV} : H a = some (.dT kvs) → RepL K S ps (kvs.map (·.2)) → DRep K S H true (kvs.map fun p => .tup (p.1.map keyPV)) ps a
theorem DRep.of {H : Hp} {tk : Bool} {ks ps : List PV} {v : V} (s : Same S H) (h : Rep K S (.dic tk ks ps) v) : ∃ a, v = .ref a ∧ DRep K S H tk ks ps a := by
  cases h with
  | dK h1 h2 => exact ⟨_, rfl, .k (s _ _ h1) h2⟩
  | dT h1 h2 => exact ⟨_, rfl, .t (s _ _ h1) h2⟩
theorem DRep.own {H : Hp} {tk : Bool} {ks ps : List PV} {b : Addr} {o : HO} (h : H b = some o) (w : OwnO K S (.dic tk ks ps) o) : DRep K S H tk ks ps b := by
  cases tk <;> cases o
  case false.dK kvs =>
    obtain ⟨rfl, h2⟩ := (show ks = kvs.map (fun p => keyPV p.1) ∧ RepL K S ps (kvs.map (·.2)) from w)
    exact .k h h2
  case true.dT kvs =>
    obtain ⟨rfl, h2⟩ := (show ks = kvs.map (fun p => .tup (p.1.map keyPV)) ∧ RepL K S ps (kvs.map (·.2)) from w)
    exact .t h h2
  all_goals exact w.elim
theorem DRep.isD {H : Hp} {tk : Bool} {ks ps : List PV} {a : Addr} (h : DRep K S H tk ks ps a) : IsD H a := by
  cases h with
  | k h1 _ => exact .inl ⟨_, .inl h1⟩
  | t h1 _ => exact .inr ⟨_, .inl h1⟩
theorem DRep.get {H : Hp} {tk : Bool} {ks ps : List PV} {a : Addr} {q : PV} {y : V} (s : Same S H) (h : DRep K S H tk ks ps a) (ry : Rep K S q y) (hk : (kk? q).isSome = true) (ho : kOk tk q = true) :
    (∀ p, dLook ks ps q = some p → ∃ v, DGet H a y (some v) ∧ Rep K S p v) ∧ (dLook ks ps q = none → DGet H a y none) := by
  have keyed : ∀ k, key? q = some k → (∀ p, dLook ks ps q = some p → ∃ v, DGet H a y (some v) ∧ Rep K S p v) ∧ (dLook ks ps q = none → DGet H a y none) := fun k hq => by
    have eq := key?_some hq
    subst eq
    have ey := ry.keyV
    subst ey
    cases h with
    | k h3 h4 =>
      refine ⟨fun p e => ?_, fun e => ?_⟩
      · obtain ⟨v, z1, z2⟩ := dLookK k h4 e
        exact ⟨v, .inl ⟨_, k, .inl h3, rfl, z1.symm⟩, z2⟩
      · exact .inl ⟨_, k, .inl h3, rfl, (dLookKn k h4 e).symm⟩
    | t h3 h4 =>
      cases k <;> cases ho
  cases q with
  | tup qs =>
    cases ry with
    | tup h1 h2 =>
      rename_i b us
      have hk : ((keys? qs).map (Sum.inr : List Key → KK)).isSome = true := hk
      cases hks : keys? qs with
      | none => rw [hks] at hk; cases hk
      | some k =>
        have eq := keys?_some hks
        subst eq
        have hx := s _ _ h1
        rw [h2.keyVs] at hx
        cases h with
        | t h3 h4 =>
          refine ⟨fun p e => ?_, fun e => ?_⟩
          · obtain ⟨v, z1, z2⟩ := dLookT k h4 e
            exact ⟨v, .inr ⟨_, k, b, .inl h3, rfl, hx, z1.symm⟩, z2⟩
          · exact .inr ⟨_, k, b, .inl h3, rfl, hx, (dLookTn k h4 e).symm⟩
        | k h3 h4 =>
          cases ho
  | int i => exact keyed (.inl i) rfl
  | str x => exact keyed (.inr x) rfl
  | _ => cases hk
end
end PL

set_option Elab.async false
set_option linter.all false
set_option maxRecDepth 100000
set_option maxHeartbeats 4000000
namespace PL
open PySem PySem.Spec L2
open PyProof.Rows hiding St
set_option autoImplicit false

/-! ### dicts: rules -/
def kGood (t : Bool) (q : PV) : Bool := (kk? q).isSome && kOk t q
def gDG : PV → PV → Option PV
  | .dic t ks vs, q => if kGood t q then dLook ks vs q else none
  | _, _ => none
def gDHas (neg : Bool) : PV → PV → Option PV
  | q, .dic t ks vs => if kGood t q then some (.bl (if neg then !(dLook ks vs q).isSome else (dLook ks vs q).isSome)) else none
  | _, _ => none
def gDG2 : PV → PV → PV → Option PV
  | .dic t ks vs, q, d => if kGood t q then some ((dLook ks vs q).getD d) else none
  | _, _, _ => none
def dGet2 (da db dc : Den) : Den := fun ρ => (da ρ).bind fun p ρ1 => (db ρ1).bind fun q ρ2 => (dc ρ2).bind fun d ρ3 => opt (gDG2 p q d) ρ3
def dGet2v (i : Nat) (db dc : Den) : Den := fun ρ => match slot ρ i with
  | some (.dic _ _ _) => (db ρ).bind fun q ρ2 => (dc ρ2).bind fun d ρ3 => match slot ρ3 i with
    | some p => opt (gDG2 p q d) ρ3
    | none => .bad
  | _ => .bad
section
variable {K : PySem.W.Frag} {mg : Str → Option Value} {W : WX}
theorem DRep.got {S H : Hp} {t : Bool} {ks ps : List PV} {a : Addr} {q p : PV} {y : V} (s : Same S H) (h : DRep K S H t ks ps a) (ry : Rep K S q y) (hk : kGood t q = true) (e : dLook ks ps q = some p) : ∃ v, DGet H a y (some v) ∧ Rep K S p v :=
  (h.get s ry ((Bool.and_eq_true _ _).mp hk).1 ((Bool.and_eq_true _ _).mp hk).2).1 p e
theorem DRep.not {S H : Hp} {t : Bool} {ks ps : List PV} {a : Addr} {q : PV} {y : V} (s : Same S H) (h : DRep K S H t ks ps a) (ry : Rep K S q y) (hk : kGood t q = true) (e : dLook ks ps q = none) : DGet H a y none :=
  (h.get s ry ((Bool.and_eq_true _ _).mp hk).1 ((Bool.and_eq_true _ _).mp hk).2).2 e
/-- a dict in a slot, shared or owned -/
theorem Abs.dict {H₀ S₀ : Hp} {M : Addr → Prop} {S H : Hp} {σ : L2.St} {ρ : Env} {i : Nat} {t : Bool} {ks ps : List PV} (a : Abs K H₀ S₀ M S σ H ρ) (e : slot ρ i = some (.dic t ks ps)) :
    ∃ b, σ[i]? = some (some (.ref b)) ∧ DRep K S H t ks ps b := by
  obtain ⟨v, hv, h⟩ := a.lookL e
  rcases h with h | ⟨b, o, rfl, h2, h3, h4⟩
  · obtain ⟨b, rfl, h5⟩ := DRep.of a.sub h
    exact ⟨b, hv, h5⟩
  · exact ⟨b, hv, DRep.own h3 h4⟩
theorem eo_dg {td ty : TE} {da db : Den} (ha : EOk K mg W td da) (hb : EOk K mg W ty db) : EOk K mg W (tDGet td ty) (d2 gDG da db) := fun H₀ S₀ M S σ H ρ Q ab hp =>
  ha.bind (Rl' := rV K) ab hp fun p ρ1 v S1 H1 _ a1 _ r1 hp => hb.bind (Rl' := rV K) a1 hp fun q ρ2 y S2 H2 _ a2 s2 r2 hp => by
    cases p with
    | dic t ks vs =>
      by_cases hk : kGood t q = true
      · cases e : dLook ks vs q with
        | none => simp only [gDG, if_pos hk, e] at hp; exact hp.elim
        | some z =>
          simp only [gDG, if_pos hk, e] at hp
          obtain ⟨a, rfl, h⟩ := DRep.of a2.sub (r1.up s2)
          obtain ⟨v, h1, h2⟩ := h.got a2.sub r2 hk e
          exact ⟨a, v, rfl, h1, hp v S2 H2 a2 h2⟩
      · simp only [gDG, if_neg hk] at hp; exact hp.elim
    | _ => exact hp.elim
theorem eo_dgv {i : Nat} {ty : TE} {db : Den} (hb : EOk K mg W ty db) : EOk K mg W (tDGet (tVar i) ty) (d2l gDG i db) := fun H₀ S₀ M S σ H ρ Q ab hp => by
  unfold d2l at hp
  cases e0 : slot ρ i with
  | none => rw [e0] at hp; exact hp.elim
  | some p0 =>
    rw [e0] at hp
    obtain ⟨v0, _, hv, _⟩ := ab.look e0
    refine ⟨v0, hv, hb.bind (Rl' := rV K) ab hp fun q ρ1 y S1 H1 _ a1 _ r1 hp => ?_⟩
    cases e1 : slot ρ1 i with
    | none => rw [e1] at hp; exact hp.elim
    | some p =>
      rw [e1] at hp
      cases p with
      | dic t ks vs =>
        obtain ⟨b, h1, h2⟩ := a1.dict e1
        rw [hv] at h1
        cases h1
        by_cases hk : kGood t q = true
        · cases e : dLook ks vs q with
          | none => simp only [gDG, if_pos hk, e] at hp; exact hp.elim
          | some z =>
            simp only [gDG, if_pos hk, e] at hp
            obtain ⟨v, h3, h4⟩ := h2.got a1.sub r1 hk e
            exact ⟨b, v, rfl, h3, hp v S1 H1 a1 h4⟩
        · simp only [gDG, if_neg hk] at hp; exact hp.elim
      | _ => exact hp.elim
theorem eo_dget2v {i : Nat} {ty tx : TE} {db dc : Den} (hb : EOk K mg W ty db) (hc : EOk K mg W tx dc) : EOk K mg W (tDGet2 (tVar i) ty tx) (dGet2v i db dc) := fun H₀ S₀ M S σ H ρ Q ab hp => by
  unfold dGet2v at hp
  cases e0 : slot ρ i with
  | none => rw [e0] at hp; exact hp.elim
  | some p0 =>
    rw [e0] at hp
    cases p0 with
    | dic t0 ks0 vs0 =>
      obtain ⟨b, hv, h0⟩ := ab.dict e0
      refine ⟨.ref b, hv, b, rfl, h0.isD, hb.bind (Rl' := rV K) ab hp fun q ρ1 y S1 H1 _ a1 _ r1 hp => hc.bind (Rl' := rV K) a1 hp fun d ρ2 z S2 H2 _ a2 s2 r2 hp => ?_⟩
      cases e1 : slot ρ2 i with
      | none => rw [e1] at hp; exact hp.elim
      | some p =>
        rw [e1] at hp
        cases p with
        | dic t ks vs =>
          obtain ⟨b', h1, h2⟩ := a2.dict e1
          rw [hv] at h1
          cases h1
          by_cases hk : kGood t q = true
          · simp only [gDG2, if_pos hk] at hp
            cases e : dLook ks vs q with
            | none =>
              rw [e] at hp
              exact ⟨none, h2.not a2.sub (r1.up s2) hk e, hp z S2 H2 a2 r2⟩
            | some p' =>
              rw [e] at hp
              obtain ⟨v, h3, h4⟩ := h2.got a2.sub (r1.up s2) hk e
              exact ⟨some v, h3, hp v S2 H2 a2 h4⟩
          · simp only [gDG2, if_neg hk] at hp; exact hp.elim
        | _ => exact hp.elim
    | _ => exact hp.elim
theorem dhas_core {neg : Bool} {i : Nat} {ty : TE} {db : Den} (hb : EOk K mg W ty db) {H₀ S₀ : Hp} {M : Addr → Prop} {S H : Hp} {σ : L2.St} {ρ : Env} {Q : VK} (ab : Abs K H₀ S₀ M S σ H ρ) (hp : Post K mg W (rV K) H₀ S₀ M σ (d2r (gDHas neg) db i ρ) Q) :
    ty σ H fun y H1 => ∃ x, σ[i]? = some (some x) ∧ ∃ a o, x = .ref a ∧ DGet H1 a y o ∧ Q (.bl (if neg then !o.isSome else o.isSome)) H1 :=
  hb.bind (Rl' := rV K) ab hp fun q ρ1 y S1 H1 _ a1 _ r1 hp => by
    cases e1 : slot ρ1 i with
    | none => rw [e1] at hp; exact hp.elim
    | some p =>
      rw [e1] at hp
      cases p with
      | dic t ks vs =>
        obtain ⟨b, h1, h2⟩ := a1.dict e1
        refine ⟨.ref b, h1, b, ?_⟩
        by_cases hk : kGood t q = true
        · simp only [gDHas, if_pos hk] at hp
          cases e : dLook ks vs q with
          | none =>
            rw [e] at hp
            exact ⟨none, rfl, h2.not a1.sub r1 hk e, hp _ S1 H1 a1 (.bl _)⟩
          | some p' =>
            rw [e] at hp
            obtain ⟨v, h3, h4⟩ := h2.got a1.sub r1 hk e
            exact ⟨some v, rfl, h3, hp _ S1 H1 a1 (.bl _)⟩
        · simp only [gDHas, if_neg hk] at hp; cases q <;> exact hp.elim
      | _ => cases q <;> exact hp.elim
theorem eo_din {i : Nat} {ty : TE} {db : Den} (hb : EOk K mg W ty db) : EOk K mg W (tDIn ty (tVar i)) (d2r (gDHas false) db i) := fun H₀ S₀ M S σ H ρ Q ab hp => dhas_core (neg := false) hb ab hp
theorem eo_dnotin {i : Nat} {ty : TE} {db : Den} (hb : EOk K mg W ty db) : EOk K mg W (tDNotIn ty (tVar i)) (d2r (gDHas true) db i) := fun H₀ S₀ M S σ H ρ Q ab hp => dhas_core (neg := true) hb ab hp
end
/-! ### isinstance -/
def tyName : PV → Option String
  | .non => some "NoneType"
  | .bl _ => some "bool"
  | .int _ => some "int"
  | .str _ => some "str"
  | .lst _ => some "list"
  | .tup _ => some "tuple"
  | .ktup _ => some "tuple"
  | .dic _ _ _ => some "dict"
  | .fn _ => none
  | .klst _ => none
def gIsi (T : String) (p : PV) : Option PV := (tyName p).bind fun t => (kitB t T).map .bl
def gIsi2 (T U : String) (p : PV) : Option PV := (tyName p).bind fun t => (kitB t T).bind fun a => (kitB t U).map fun b => .bl (a || b)
section
variable {K : PySem.W.Frag} {mg : Str → Option Value} {W : WX}
theorem Rep.ty {S H : Hp} {p : PV} {v : V} {t : String} (s : Same S H) (r : Rep K S p v) (e : tyName p = some t) : TyX K H v (.type t) := by
  cases r with
  | non => cases e; exact .base .non
  | bl b => cases e; exact .base (.bl b)
  | int i => cases e; exact .base (.int i)
  | str x => cases e; exact .base (.str x)
  | lst h1 h2 => cases e; exact .base (.lst (s _ _ h1))
  | tup h1 h2 => cases e; exact .base (.tup (s _ _ h1))
  | ktup h1 h2 =>
    cases e
    rcases h1 with (h | ⟨o, h⟩) | ⟨o, its, n, h1, h3, _⟩
    · exact .base (.tup (s _ _ h))
    · exact .fTuple (s _ _ h)
    · exact .kTuple h1 h3
  | klst h1 h2 => cases e
  | dK h1 h2 => cases e; exact .base (.dK (s _ _ h1))
  | dT h1 h2 => cases e; exact .base (.dT (s _ _ h1))
  | fn a => cases e
theorem eo_isi {T : String} {ta : TE} {da : Den} (ha : EOk K mg W ta da) : EOk K mg W (tCB (rIsi K) (tCons ta (tCons (tC (.ty T)) tNil))) (d1 (gIsi T) da) := fun H₀ S₀ M S σ H ρ Q ab hp =>
  ha.bind (Rl' := rV K) ab hp fun p ρ1 v S1 H1 _ a1 _ r1 hp => by
    cases e : tyName p with
    | none => simp only [gIsi, e] at hp; exact hp.elim
    | some t =>
      cases e2 : kitB t T with
      | none => simp only [gIsi, e, e2, Option.bind_some, Option.map_none] at hp; exact hp.elim
      | some b =>
        simp only [gIsi, e, e2, Option.bind_some, Option.map_some] at hp
        exact ⟨v, .ty T, .type t, .type T, b, rfl, .ty T, r1.ty a1.sub e, kit_ty e2, hp _ S1 H1 a1 (.bl b)⟩
theorem eo_isi2 {T U : String} {ta : TE} {da : Den} (ha : EOk K mg W ta da) : EOk K mg W (tCB (rIsiT K) (tCons ta (tCons (tTup (tCons (tC (.ty T)) (tCons (tC (.ty U)) tNil))) tNil))) (d1 (gIsi2 T U) da) := fun H₀ S₀ M S σ H ρ Q ab hp =>
  ha.bind (Rl' := rV K) ab hp fun p ρ1 v S1 H1 _ a1 _ r1 hp => by
    refine ⟨by show 2 ≤ sizeLine; rw [sizeLine_eq]; decide, fun tp n => ?_⟩
    cases e : tyName p with
    | none => simp only [gIsi2, e] at hp; exact hp.elim
    | some t =>
      cases e2 : kitB t T with
      | none => simp only [gIsi2, e, e2, Option.bind_some, Option.bind_none] at hp; exact hp.elim
      | some a =>
        cases e3 : kitB t U with
        | none => simp only [gIsi2, e, e2, e3, Option.bind_some, Option.map_none] at hp; exact hp.elim
        | some b =>
          simp only [gIsi2, e, e2, e3, Option.bind_some, Option.map_some] at hp
          have st := Step.hid (o := .tup [.ty T, .ty U]) a1.sub n
          refine ⟨v, tp, [.ty T, .ty U], .type t, [.type T, .type U], a || b, rfl, upd_same, .cons (.ty T) (.cons (.ty U) .nil), r1.ty (st.s.trans st.sub) e, ?_, hp _ S1 _ (a1.step st) (.bl _)⟩
          refine kitAny_cons (kit_ty e2) (fun ea => ?_) fun ea => by rw [ea]; rfl
          rw [ea, Bool.false_or]
          exact kitAny_cons (kit_ty e3) (fun eb => by rw [eb]; exact kitAny_nil) fun eb => eb
/-! ### is of a bool -/
def gIsB (neg : Bool) (c : Bool) : PV → Option PV
  | .bl b => some (.bl (if neg then !decide (b = c) else decide (b = c)))
  | .non => some (.bl neg)
  | _ => none
end
def rIsBN (neg : Bool) : R2 := fun x y H Q => ∃ c : Bool, y = .bl c ∧ ((∃ b : Bool, x = .bl b ∧ Q (.bl (if neg then !decide (b = c) else decide (b = c))) H) ∨ (x = .non ∧ Q (.bl neg) H))
section
variable {X : Cx} {W : WX} {fr : Bool} {k : Nat} {pos p p2 p3 apos cpos np : Pos} {e a b : Expr} {es rest : List Expr} {da db dc : Den} {dl : DenL} {x : Str}
theorem op_isBN : OpR X (compareOp .Is) (rIsBN false) := by
  intro pins s σ H x y v u Q I rx ry h
  obtain ⟨c, rfl, h⟩ := h
  rcases h with ⟨b, rfl, q⟩ | ⟨rfl, q⟩
  · exact op_isBl pins s σ H _ _ v u Q I rx ry ⟨b, c, rfl, rfl, q⟩
  · cases (show v = Value.none from rx)
    cases (show u = Value.bool c from ry)
    exact wpAny_is_other rfl (fun z => by cases z) ⟨.bl false, H, I, rfl, q⟩
theorem op_isNotBN : OpR X (compareOp .IsNot) (rIsBN true) := by
  intro pins s σ H x y v u Q I rx ry h
  obtain ⟨c, rfl, h⟩ := h
  rcases h with ⟨b, rfl, q⟩ | ⟨rfl, q⟩
  · exact op_notBl pins s σ H _ _ v u Q I rx ry ⟨b, c, rfl, rfl, q⟩
  · cases (show v = Value.none from rx)
    cases (show u = Value.bool c from ry)
    exact wpAny_isNot_other rfl (fun z => by cases z) ⟨.bl true, H, I, rfl, q⟩
def gIsBB (neg : Bool) : PV → PV → Option PV
  | p, .bl c => gIsB neg c p
  | _, _ => none
theorem v2_isB {K : PySem.W.Frag} {neg : Bool} : V2 K (rIsBN neg) (gIsBB neg) := by
  intro S H x y p q z Q s rx ry e k
  cases q with
  | bl c =>
    cases ry
    cases p with
    | bl b => cases rx; cases e; exact ⟨c, rfl, .inl ⟨b, rfl, k _ S H (Step.refl s) (.bl _)⟩⟩
    | non => cases rx; cases e; exact ⟨c, rfl, .inr ⟨rfl, k _ S H (Step.refl s) (.bl _)⟩⟩
    | _ => cases e
  | _ => cases p <;> cases e
theorem isB_sc {neg : Bool} : ∀ p q z, gIsBB neg p q = some z → z.sc = true := by
  intro p q z e
  cases q <;> cases p <;> first | (cases e; done) | (cases e; rfl)
theorem cr_isB : CmpR X .Is (rIsBN false) (gIsBB false) := ⟨op_isBN, v2_isB, isB_sc⟩
theorem cr_isNotB : CmpR X .IsNot (rIsBN true) (gIsBB true) := ⟨op_isNotBN, v2_isB, isB_sc⟩
theorem de_isi (T : String) (B : Bi X.mg) (ha : DE X W e da) (hmT : X.mg x = none) (hb : bootBuiltins x = some (.type T)) (hg : Gl X "isinstance" := by rfl) (hgT : Gl X x := by rfl) (hn : x ≠ "__name__" := by decide) (hdb : (x == ("__debug__" : Str)) = false := by decide)
    (h1 : starEach [e, .Name x p2] X.env = (false, eval e X.env) :: starEach [.Name x p2] X.env := by rfl) (h2 : starEach [.Name x p2] X.env = (false, eval (.Name x p2) X.env) :: starEach [] X.env := by rfl) (hpl : (backTo pos (starEach [.Name x p2] X.env)).any (·.1) = false := by rfl) :
    DE X W (.Call (.Name "isinstance" p) [e, .Name x p2] [] pos) (d1 (gIsi T) da) :=
  DE.of (pe_callB call_isi hg B.isinstance (by decide +kernel) (pa_cons ha (pa_cons (pe_bltn (v := .ty T) hgT hmT hb rfl hn hdb) pa_nil h2) h1) (by decide) (by decide) h1 hpl) (eo_isi canon_ok)
theorem de_isi2 (T U : String) {y : Str} {j : Nat} {p4 : Pos} (B : Bi X.mg) (ha : DE X W e da) (hmT : X.mg x = none) (hb : bootBuiltins x = some (.type T)) (hmU : X.mg y = none) (hbU : bootBuiltins y = some (.type U)) (hg : Gl X "isinstance" := by rfl) (hgT : Gl X x := by rfl) (hgU : Gl X y := by rfl)
    (hn : x ≠ "__name__" := by decide) (hdb : (x == ("__debug__" : Str)) = false := by decide) (hn2 : y ≠ "__name__" := by decide) (hdb2 : (y == ("__debug__" : Str)) = false := by decide)
    (h1 : starEach [e, .Tuple [.Name x p2, .Name y p3] j p4] X.env = (false, eval e X.env) :: starEach [.Tuple [.Name x p2, .Name y p3] j p4] X.env := by rfl) (h2 : starEach [.Tuple [.Name x p2, .Name y p3] j p4] X.env = (false, eval (.Tuple [.Name x p2, .Name y p3] j p4) X.env) :: starEach [] X.env := by rfl)
    (h3 : starEach [.Name x p2, .Name y p3] X.env = (false, eval (.Name x p2) X.env) :: starEach [.Name y p3] X.env := by rfl) (h4 : starEach [.Name y p3] X.env = (false, eval (.Name y p3) X.env) :: starEach [] X.env := by rfl) (hpl : (backTo pos (starEach [.Tuple [.Name x p2, .Name y p3] j p4] X.env)).any (·.1) = false := by rfl) :
    DE X W (.Call (.Name "isinstance" p) [e, .Tuple [.Name x p2, .Name y p3] j p4] [] pos) (d1 (gIsi2 T U) da) :=
  DE.of (pe_callB call_isiT hg B.isinstance (by decide +kernel) (pa_cons ha (pa_cons (pe_tup (pa_cons (pe_bltn (v := .ty T) hgT hmT hb rfl hn hdb) (pa_cons (pe_bltn (v := .ty U) hgU hmU hbU rfl hn2 hdb2) pa_nil h4) h3)) pa_nil h2) h1) (by decide) (by decide) h1 hpl) (eo_isi2 canon_ok)
/-! ### dicts: syntax -/
theorem de_dgv (i : Nat) (c : Ctx X W k) (ho : PE X (.Name x p) (tVar i)) (hi : DE X W e db) (hs : NoSl e := by intro _ _; rfl) : DE X W (.Subscript (.Name x p) e pos) (d2l gDG i db) := DE.of (pe_dget (by have := c.hu; omega) ho hi hs) (eo_dgv canon_ok)
theorem de_dget2v {f : Expr} (i : Nat) (c : Ctx X W k) (ho : PE X (.Name x np) (tVar i)) (he : DE X W e db) (hf : DE X W f dc) (m : M2 X (.Name x np) "get" apos e f cpos := by exact ⟨rfl, rfl, rfl, rfl⟩) : DE X W (.Call (.Attribute (.Name x np) "get" apos) [e, f] [] cpos) (dGet2v i db dc) :=
  DE.of (pe_dget2 (by have := c.hu; omega) ho he hf m) (eo_dget2v canon_ok canon_ok)
theorem de_din (i : Nat) (c : Ctx X W k) (he : DE X W e db) (ho : PE X (.Name x p) (tVar i)) (h1 : behindInMarks .In (.Name x p) = false := by rfl) : DE X W (.Compare e [.In] [.Name x p] pos) (d2r (gDHas false) db i) := DE.of (pe_cmp (pc_din (by have := c.hu; omega) he ho) h1) (eo_din canon_ok)
theorem de_dnotin (i : Nat) (c : Ctx X W k) (he : DE X W e db) (ho : PE X (.Name x p) (tVar i)) (h1 : behindInMarks .NotIn (.Name x p) = false := by rfl) : DE X W (.Compare e [.NotIn] [.Name x p] pos) (d2r (gDHas true) db i) := DE.of (pe_cmp (pc_dnotin (by have := c.hu; omega) he ho) h1) (eo_dnotin canon_ok)
theorem dt_din (i : Nat) (c : Ctx X W k) (he : DE X W e db) (ho : PE X (.Name x p) (tVar i)) (h1 : behindInMarks .In (.Name x p) = false := by rfl) : DT X W (.Compare e [.In] [.Name x p] pos) (bVal (d2r (gDHas false) db i)) := DT.of (pt_cmp (pc_din (by have := c.hu; omega) he ho) h1) (to_val (eo_din canon_ok))
theorem dt_dnotin (i : Nat) (c : Ctx X W k) (he : DE X W e db) (ho : PE X (.Name x p) (tVar i)) (h1 : behindInMarks .NotIn (.Name x p) = false := by rfl) : DT X W (.Compare e [.NotIn] [.Name x p] pos) (bVal (d2r (gDHas true) db i)) := DT.of (pt_cmp (pc_dnotin (by have := c.hu; omega) he ho) h1) (to_val (eo_dnotin canon_ok))
/-! ### join -/
def gJoin : PV → PV → Option PV
  | .str a, .lst ps => (strs? ps).bind fun ys => if (ys.map (·.length)).sum + ys.length * a.length ≤ 16777216 then some (.str (Txt.join a ys)) else none
  | _, _ => none
def dJoin (da db : Den) : Den := fun ρ => (da ρ).bind fun p ρ1 => match p with
  | .str _ => (db ρ1).bind fun q ρ2 => opt (gJoin p q) ρ2
  | _ => .bad
theorem de_join {o : Expr} (ho : DE X W o da) (he : DE X W e db) (hs : starEach [e] X.env = [(false, eval e X.env)] := by rfl) (hbase : attributeBase o "join" X.env (eval o X.env) = eval o X.env := by rfl) (hline : (apos.endLine == pos.line) = true := by rfl) :
    DE X W (.Call (.Attribute o "join" apos) [e] [] pos) (dJoin da db) := DE.of (pe_join ho he hs hbase hline) fun H₀ S₀ M S σ H ρ Q ab hp =>
  canon_ok.bind (Rl := rV X.K) (Rl' := rV X.K) ab hp fun p ρ1 v S1 H1 _ a1 _ r1 hp => by
    cases p with
    | str a =>
      cases r1
      refine ⟨⟨a, rfl⟩, canon_ok.bind (Rl := rV X.K) (Rl' := rV X.K) a1 hp fun q ρ2 y S2 H2 _ a2 s2 r2 hp => ?_⟩
      cases q with
      | lst ps =>
        cases e1 : strs? ps with
        | none => simp only [gJoin, e1] at hp; exact hp.elim
        | some ys =>
          by_cases hz : (ys.map (·.length)).sum + ys.length * a.length ≤ 16777216
          · simp only [gJoin, e1, Option.bind_some, if_pos hz] at hp
            cases r2 with
            | lst h1 h2 =>
              rw [h2.strs e1] at h1
              exact ⟨a, _, ys, rfl, rfl, .inl (.inl (.inl (a2.sub _ _ h1))), hz, hp _ S2 H2 a2 (.str _)⟩
          · simp only [gJoin, e1, Option.bind_some, if_neg hz] at hp; exact hp.elim
      | _ => exact hp.elim
    | _ => exact hp.elim
/-! ### list(x), tuple(x) -/
def gListOf : List PV → Option PV
  | [.lst ps] => some (.lst ps)
  | [.tup ps] => some (.lst ps)
  | [.ktup ps] => some (.lst ps)
  | _ => none
theorem vn_listOf {K : PySem.W.Frag} : VNF K (fun xs H Q => ∃ p ys, xs = [.ref p] ∧ (SqL K H p ys ∨ SqT K H p ys) ∧ ∀ l, H l = none → Q (.ref l) (upd H l (.lst ys))) gListOf := by
  intro S H xs ps z Q s rx e k
  unfold gListOf at e
  split at e
  · cases rx with
    | cons r1 r2 =>
      cases r2; cases e
      cases r1 with
      | lst h1 h2 => exact ⟨_, _, rfl, .inl (.inl (.inl (s _ _ h1))), fun l n => k l (.lst _) n h2⟩
  · cases rx with
    | cons r1 r2 =>
      cases r2; cases e
      cases r1 with
      | tup h1 h2 => exact ⟨_, _, rfl, .inr (.inl (.inl (s _ _ h1))), fun l n => k l (.lst _) n h2⟩
  · cases rx with
    | cons r1 r2 =>
      cases r2; cases e
      cases r1 with
      | ktup h1 h2 => exact ⟨_, _, rfl, .inr (Same.tupK s h1), fun l n => k l (.lst _) n h2⟩
  · cases e
theorem df_listOf (B : Bi X.mg) (ha : DA X W (e :: es) dl) (hg : Gl X "list" := by rfl) (he : starEach (e :: es) X.env = (false, eval e X.env) :: starEach es X.env := by rfl) (hpl : (backTo pos (starEach es X.env)).any (·.1) = false := by rfl) :
    DF X W (.Call (.Name "list" p) (e :: es) [] pos) (dN gListOf dl) := DF.of (pe_callTy call_list_of hg B.list (by decide +kernel) ha (by decide) (by decide) he hpl) (fo_n canon_ok vn_listOf)
end
end PL

set_option Elab.async false
set_option linter.all false
set_option maxRecDepth 100000
set_option maxHeartbeats 4000000
namespace PL
open PySem PySem.Spec L2
open PyProof.Rows hiding St
set_option autoImplicit false

/-! ### displays of dicts -/
def dPairs : List (Den × Den) → Env → Option (List (PV × PV) × Env)
  | [], ρ => some ([], ρ)
  | (dk, dv) :: r, ρ => match dk ρ with
    | .ok p ρ1 => match dv ρ1 with
      | .ok q ρ2 => (match dPairs r ρ2 with
        | some (ps, ρ3) => some ((p, q) :: ps, ρ3)
        | none => none)
      | _ => none
    | _ => none
def nodupK : List PV → Bool
  | [] => true
  | p :: ps => (key? p).isSome && !ps.any (fun q => kEq q p) && nodupK ps
def dDisp (prs : List (Den × Den)) : Den := fun ρ => match dPairs prs (lockE [] ρ) with
  | some (ps, ρ2) => if noOw ρ2 && nodupK (ps.map (·.1)) && decide (ps.length ≤ 15) then .ok (.dic false (ps.map (·.1)) (ps.map (·.2))) (backE [] ρ ρ2) else .bad
  | none => .bad
section
variable {K : PySem.W.Frag} {mg : Str → Option Value} {W : WX}
theorem mergeK_nodup : ∀ (more acc : List (Key × V)), nodupK (more.map fun p => keyPV p.1) = true → (∀ p ∈ more, ∀ q ∈ acc, q.1 ≠ p.1) → mergeK acc more = acc ++ more
  | [], acc, _, _ => by simp [mergeK]
  | p :: r, acc, h, h2 => by
    have h : ((key? (keyPV p.1)).isSome && !(r.map fun q => keyPV q.1).any (fun q => kEq q (keyPV p.1)) && nodupK (r.map fun q => keyPV q.1)) = true := h
    simp only [Bool.and_eq_true, Bool.not_eq_true'] at h
    obtain ⟨⟨_, h3⟩, h4⟩ := h
    have e : putK acc p.1 p.2 = acc ++ [(p.1, p.2)] := by
      unfold putK
      rw [if_neg]
      intro z
      obtain ⟨q, hq, e⟩ := List.any_eq_true.mp z
      exact h2 p List.mem_cons_self q hq (of_decide_eq_true e)
    show mergeK (putK acc p.1 p.2) r = _
    rw [e, mergeK_nodup r _ h4 fun q hq w hw => ?_, List.append_assoc]
    · rfl
    · rcases List.mem_append.mp hw with hw | hw
      · exact h2 q (List.mem_cons_of_mem _ hq) w hw
      · rw [List.mem_singleton.mp hw]
        intro z
        have := List.any_eq_false.mp h3 (keyPV q.1) (List.mem_map.mpr ⟨q, hq, rfl⟩)
        apply this
        unfold kEq
        rw [kk?_key, kk?_key]
        have z' : p.1 = q.1 := z
        simp [z']
inductive POk (K : PySem.W.Frag) (mg : Str → Option Value) (W : WX) : List (TE × TE) → List (Den × Den) → Prop
  | nil : POk K mg W [] []
  | cons {tk tv : TE} {dk dv : Den} {r : List (TE × TE)} {dr : List (Den × Den)} : EOk K mg W tk dk → EOk K mg W tv dv → POk K mg W r dr → POk K mg W ((tk, tv) :: r) ((dk, dv) :: dr)
theorem pairs_run {trs : List (TE × TE)} {prs : List (Den × Den)} (h : POk K mg W trs prs) : ∀ {H₀ S₀ : Hp} {M : Addr → Prop} {S H : Hp} {σ : L2.St} {ρ ρ2 : Env} {ps : List (PV × PV)} {Q : List (V × V) → Hp → Prop}, Abs K H₀ S₀ M S σ H ρ → dPairs prs ρ = some (ps, ρ2) →
    (∀ vs S' H', Abs K H₀ S₀ M S' σ H' ρ2 → Same S S' → RepL K S' (ps.map (·.1)) (vs.map (·.1)) → RepL K S' (ps.map (·.2)) (vs.map (·.2)) → Q vs H') → tPairs trs σ H Q := by
  induction h with
  | nil =>
    intro H₀ S₀ M S H σ ρ ρ2 ps Q ab e hq
    cases e
    exact hq [] S H ab (Same.refl _) .nil .nil
  | @cons tk tv dk dv r dr h1 h2 _ ih =>
    intro H₀ S₀ M S H σ ρ ρ2 ps Q ab e hq
    unfold dPairs at e
    cases e1 : dk ρ with
    | bad => simp only [e1] at e; cases e
    | exc x ρ1 => simp only [e1] at e; cases e
    | ok p ρ1 =>
      simp only [e1] at e
      cases e2 : dv ρ1 with
      | bad => simp only [e2] at e; cases e
      | exc x ρ1 => simp only [e2] at e; cases e
      | ok q ρ3 =>
        simp only [e2] at e
        cases e3 : dPairs dr ρ3 with
        | none => simp only [e3] at e; cases e
        | some pr =>
          obtain ⟨ps', ρ4⟩ := pr
          simp only [e3] at e
          cases e
          refine h1 H₀ S M S σ H ρ _ ab.rebase ?_
          rw [e1]
          intro v S1 H1 a1 r1
          refine h2 H₀ S1 M S1 σ H1 ρ1 _ a1.rebase ?_
          rw [e2]
          intro u S2 H2 a2 r2
          have a2' := ab.unbase (a1.unbase a2)
          refine ih (ab.unbase (a1.unbase a2)) e3 fun vs S3 H3 a3 s3 r3 r4 => hq ((v, u) :: vs) S3 H3 a3 ((a1.base.trans a2.base).trans s3) (.cons ?_ r3) (.cons ?_ r4)
          · exact (Rep.up (a2.base.trans s3) r1)
          · exact Rep.up s3 r2
theorem nodupK_keys : ∀ {ps : List PV}, nodupK ps = true → ∃ ks : List Key, ps = ks.map keyPV
  | [], _ => ⟨[], rfl⟩
  | p :: ps, h => by
    have h : ((key? p).isSome && !ps.any (fun q => kEq q p) && nodupK ps) = true := h
    simp only [Bool.and_eq_true] at h
    obtain ⟨ks, e⟩ := nodupK_keys h.2
    obtain ⟨k, hk⟩ := Option.isSome_iff_exists.mp h.1.1
    exact ⟨k :: ks, by rw [key?_some hk, e]; rfl⟩
theorem fo_disp {trs : List (TE × TE)} {prs : List (Den × Den)} (h : POk K mg (fun _ _ _ _ => False) trs prs) : FOk K mg W (tDisp trs) (dDisp prs) := fun H₀ S₀ M S σ H ρ Q ab hp => by
  unfold dDisp at hp
  cases e : dPairs prs (lockE [] ρ) with
  | none => rw [e] at hp; exact hp.elim
  | some pr =>
    obtain ⟨ps, ρ2⟩ := pr
    rw [e] at hp
    by_cases hc : (noOw ρ2 && nodupK (ps.map (·.1)) && decide (ps.length ≤ 15)) = true
    · simp only [if_pos hc] at hp
      simp only [Bool.and_eq_true] at hc
      obtain ⟨⟨hc0, hc1⟩, hc2⟩ := hc
      intro D hD
      have ab2 := ab.step (Step.hid (o := .dK []) ab.sub hD)
      have aE := ab2.enter []
      have nL : ¬ Lent σ ρ D := fun ⟨i, s, p, h1, h2, h3⟩ => by
        obtain ⟨c, o, k1, _, _, _, k5, _⟩ := ab.own i s p h1 h2
        rw [h3] at k1
        cases k1
        rw [hD] at k5; cases k5
      have sD : S D = none := Same.free ab.sub hD
      refine pairs_run h aE e fun vs S' H' a1 s1 r1 r2 => ?_
      have kD : H' D = some (.dK []) := a1.keep D _ upd_same nL
      have sD' : S' D = none := by
        cases q : S' D with
        | none => rfl
        | some o =>
          rcases a1.grow D o q with z | z
          · rw [sD] at z; cases z
          · rw [upd_same] at z; cases z
      obtain ⟨ks, ek⟩ := nodupK_keys hc1
      rw [ek] at r1
      have ev := r1.keyVs
      have hl : ks.length = vs.length := by
        have := congrArg List.length ev
        simpa using this.symm
      have e3 : ∃ kvs : List (Key × V), vs = kvs.map (fun kv => (kV kv.1, kv.2)) ∧ kvs.map (·.1) = ks ∧ kvs.map (·.2) = vs.map (·.2) := by
        clear r1 r2 ek a1 kD sD' s1
        induction ks generalizing vs with
        | nil => cases vs with
          | nil => exact ⟨[], rfl, rfl, rfl⟩
          | cons v vs => cases hl
        | cons k ks ih => cases vs with
          | nil => cases hl
          | cons v vs =>
            rw [List.map_cons, List.map_cons] at ev
            injection ev with e1 e2
            obtain ⟨kvs, z1, z2, z3⟩ := ih vs e2 (by simpa using hl)
            refine ⟨(k, v.2) :: kvs, ?_, by rw [List.map_cons, z2], by rw [List.map_cons, z3]; rfl⟩
            rw [List.map_cons, ← z1]
            obtain ⟨v1, v2⟩ := v
            have e1 : v1 = kV k := e1
            rw [e1]
      obtain ⟨kvs, z1, z2, z3⟩ := e3
      have hlk : ps.length = kvs.length := by
        have h1 := congrArg List.length ek
        have h2 := congrArg List.length z2
        simp only [List.length_map] at h1 h2
        omega
      refine ⟨kD, kvs, z1, by rw [← hlk]; exact of_decide_eq_true hc2, ?_⟩
      have em : mergeK [] kvs = kvs := by
        rw [mergeK_nodup kvs [] ?_ (fun _ _ q hq => nomatch hq)]
        · rfl
        · have : (kvs.map fun p => keyPV p.1) = ps.map (·.1) := by
            rw [ek, ← z2, List.map_map]
            rfl
          rw [this]; exact hc1
      rw [em]
      have aX := ab2.exit (own := []) a1
      have hn : ∀ (j : Nat) s q, (backE [] ρ ρ2)[j]? = some s → s.own? = some q → σ[j]? ≠ some (some (.ref D)) := fun j s q ej es z => by
        obtain ⟨c, o, k1, k2, k3, k4, k5, k6⟩ := aX.own j s q ej es
        rw [z] at k1
        cases k1
        rcases backE_get ej (by intro w; subst w; cases es) with ⟨_, q', hq, _⟩ | ⟨h1, t, t', h2, h3, h4⟩
        · subst hq; cases es
        · have ht : ∃ p, t.own? = some p := by
            cases t <;> cases t' <;> simp [Sl.back] at h4 <;> subst h4 <;> first | (cases es; done) | exact ⟨_, rfl⟩
          obtain ⟨p, hp'⟩ := ht
          exact nL ⟨j, t, p, h2, hp', z⟩
      have aF := aX.other (o := .dK kvs) (ab.none0 hD) sD' hn
      refine hp (.ref D) S' _ aF ⟨D, .dK kvs, rfl, ab.none0 hD, sD', upd_same, ⟨?_, ?_⟩, hn⟩
      · rw [ek, ← z2, List.map_map]
        rfl
      · rw [z3]; exact r2
    · simp only [if_neg hc] at hp
      exact hp.elim
end
section
variable {X : Cx} {W : WX} {pos : Pos}
theorem Ctx.wf {k : Nat} (c : Ctx X W k) : Ctx X (fun _ _ _ _ => False) k := ⟨c.calm, c.nd, c.room, takes0⟩
/-- the pairs of a display -/
structure DPs (X : Cx) (W : WX) (pos : Pos) (keys : List (Option Expr)) (values : List Expr) (prs : List (Den × Den)) : Prop where
  ex : ∃ trs, PPs X pos keys values trs ∧ POk X.K X.mg (fun _ _ _ _ => False) trs prs
theorem dps_nil : DPs X W pos [] [] [] := ⟨⟨[], pps_nil, .nil⟩⟩
theorem dps_cons {k v : Expr} {ks : List (Option Expr)} {vs : List Expr} {dk dv : Den} {prs : List (Den × Den)} (hk : DE X (fun _ _ _ _ => False) k dk) (hv : DE X (fun _ _ _ _ => False) v dv) (h : DPs X W pos ks vs prs) : DPs X W pos (some k :: ks) (v :: vs) ((dk, dv) :: prs) := by
  obtain ⟨trs, h1, h2⟩ := h.ex
  exact ⟨⟨_, pps_cons hk hv h1, .cons canon_ok canon_ok h2⟩⟩
theorem df_disp {keys : List (Option Expr)} {values : List Expr} {prs : List (Den × Den)} (h : DPs X W pos keys values prs) (hall : keys.all (·.isSome) = true := by rfl) (hl : keys.length = values.length := by rfl) (h0 : keys ≠ [] := by intro z; cases z) (h15 : keys.length ≤ 15 := by decide) :
    DF X W (.Dict keys values pos) (dDisp prs) := by
  obtain ⟨trs, h1, h2⟩ := h.ex
  exact DF.of (pe_disp h1 hall hl h0 h15) (fo_disp h2)
theorem df_dnewK : DF X W (.Dict [] [] pos) (dC (.dic false [] [])) := DF.of pe_dnewK fun H₀ S₀ M S σ H ρ Q ab hp p n => hp _ S _ (ab.fresh (p := .dic false [] []) (o := .dK []) n ⟨rfl, .nil⟩).1 (ab.fresh (p := .dic false [] []) (o := .dK []) n ⟨rfl, .nil⟩).2
theorem df_dnewT : DF X W (.Dict [] [] pos) (dC (.dic true [] [])) := DF.of pe_dnewT fun H₀ S₀ M S σ H ρ Q ab hp p n => hp _ S _ (ab.fresh (p := .dic true [] []) (o := .dT []) n ⟨rfl, .nil⟩).1 (ab.fresh (p := .dic true [] []) (o := .dT []) n ⟨rfl, .nil⟩).2
end
end PL

set_option Elab.async false
set_option linter.all false
set_option maxRecDepth 100000
set_option maxHeartbeats 4000000
namespace PL
open PySem PySem.Spec L2
open PyProof.Rows hiding St
set_option autoImplicit false

/-! ### defs of the head -/
abbrev FnP (K : PySem.W.Frag) (x qual : Str) (st : Stmt) (f : Addr) (fd : FuncData) : Prop := FunD K x qual (defArgs st) (defBody st) (defScope st) [] [] f fd
abbrev Bnd (x qual : Str) (st : Stmt) (ps : List Str) : Prop := ∀ (kV doc pm : Value) (an : Option Addr) (cdv ct : Value) (us : List Value), us.length = ps.length → bindArgs (PySem.W.fnOf x qual (defArgs st) (defBody st) (defScope st) .none kV doc pm an cdv ct) ⟨us, []⟩ = pure (ps.zip us)
theorem fn_okD {P : Program} {w : World} {K : PySem.W.Frag} {mg : Str → Option Value} {base : Heap} {x qual : Str} {st : Stmt} {f : Addr} {fd : FuncData} {N ps : List Str} {k : Nat} {io fr : Bool} {d : DenS} (F : FnP K x qual st f fd) (S : FnScope N ps (defScope st))
    (hl : ps.length ≤ N.length)
    (hbody : ∀ (cdv : Value) (A : Around) (outer : List PySem.Env) (s : Shared) (H : Hp) (E : XK), Ctx (cxOf (L2.CX P w) P w K mg base N qual (defScope st) f cdv A outer s H E) (fun cls dd _ H => E cls dd H) k → Po (cxOf (L2.CX P w) P w K mg base N qual (defScope st) f cdv A outer s H E) →
      DSs (cxOf (L2.CX P w) P w K mg base N qual (defScope st) f cdv A outer s H E) (fun cls dd _ H => E cls dd H) fr (defBody st) d) :
    FnOk P w K mg base (L2.CX P w) (k + 1) f fd ps (spD K mg io fr ps.length (runD io fr ps.length N.length d)) := by
  refine F.ok S (fun vs H Q E h => h.1) fun cdv A outer s H vs Q E hr h => ⟨_, hbody cdv A outer s H E ⟨rfl, S.nd, hr, takes_of rfl rfl rfl rfl⟩ (passes_of rfl), ?_⟩
  exact body_ok canonS_ok hl h
theorem fd_okD {P : Program} {w : World} {K : PySem.W.Frag} {mg : Str → Option Value} {base : Heap} {x qual : Str} {st : Stmt} {f : Addr} {fd : FuncData} {N ps : List Str} {k : Nat} {io fr : Bool} {d : DenS} (F : FnP K x qual st f fd) (hm : mg x = some (.ref f)) (S : FnScope N ps (defScope st))
    (hb : Bnd x qual st ps) (hl : ps.length ≤ N.length)
    (hbody : ∀ (cdv : Value) (A : Around) (outer : List PySem.Env) (s : Shared) (H : Hp) (E : XK), Ctx (cxOf (L2.CX P w) P w K mg base N qual (defScope st) f cdv A outer s H E) (fun cls dd _ H => E cls dd H) k → Po (cxOf (L2.CX P w) P w K mg base N qual (defScope st) f cdv A outer s H E) →
      DSs (cxOf (L2.CX P w) P w K mg base N qual (defScope st) f cdv A outer s H E) (fun cls dd _ H => E cls dd H) fr (defBody st) d) :
    Fd P w K mg base x (k + 1) io fr ps.length (runD io fr ps.length N.length d) := by
  refine ⟨⟨f, fd, ps, fn_okD F S hl hbody, hm, F.kp, F.bindsN hb⟩, fun qs h => ?_⟩
  unfold runD at h
  by_cases e : qs.length = ps.length
  · exact e
  · rw [if_neg e] at h
    exact absurd rfl h
/-- an error class whose __init__ calls its base's and sets the field -/
abbrev rStr : R2 := fun x y H Q => ∃ i j, x = .str i ∧ y = .str j ∧ i.length + j.length ≤ sizeLine ∧ Q (.str (i ++ j)) H
def tIni (K : PySem.W.Frag) (txt fld : Str) : TS := tSeq (tDrop (tVeI K (tCons (tVar 0) (tCons (tOp rStr (tC (.str txt)) (tVar 1)) tNil)))) (tOst K fld (tVar 0) (tVar 1))
theorem ec_ok {P : Program} {w : World} {K : PySem.W.Frag} {mg : Str → Option Value} {base : Heap} {x fld txt p1 p2 qual : Str} {st : Stmt} {fd : FuncData} (E : EcK K x fld) (hm : mg x = some (.ref (He.ga K x)))
    (F : FnP K "__init__" qual st (He.ma K (He.ga K x) "__init__") fd) (S : FnScope [p1, p2] [p1, p2] (defScope st)) (hb : Bnd "__init__" qual st [p1, p2]) (ht : txt.length ≤ 1000)
    (hbody : ∀ (cdv : Value) (A : Around) (outer : List PySem.Env) (s : Shared) (H : Hp) (E : XK), PSs (cxOf (L2.CX P w) P w K mg base [p1, p2] qual (defScope st) (He.ma K (He.ga K x) "__init__") cdv A outer s H E) (defBody st) (tIni K txt fld)) :
    Ec P w K mg base x fld := by
  refine ⟨E, hm, fd, [p1, p2], ?_, F.bindsN hb⟩
  refine F.ok S (fun vs H Q E h => ?_) fun cdv A outer s H vs Q E hr h => ⟨_, hbody cdv A outer s H E, ?_⟩
  · obtain ⟨a, C, z, e, _⟩ := h
    rw [e]; rfl
  · obtain ⟨a, C, z, rfl, hz, O, hf, ea, hq⟩ := h
    refine ⟨_, rfl, _, rfl, txt, z, rfl, rfl, ?_, a, C, [.str (txt ++ z)], rfl, by simp, O, ea, ?_⟩
    · rw [sizeLine_eq]; omega
    · refine ⟨.str z, rfl, .ref a, rfl, a, C, rfl, O, hf, .inl ⟨ea, fun dx hd hne => hq dx hd hne⟩⟩

/-! ### the law's def -/
def spTop (K : PySem.W.Frag) : Sp := fun vs H Q _ => ∃ (a : Addr) (ns : List Int), vs = [.ref a] ∧ ns.length ≤ 63 ∧ SqL K H a (ns.map V.int) ∧ ∀ H', Q (.bl true) H'
theorem repInts {K : PySem.W.Frag} {S : Hp} : ∀ ns : List Int, RepL K S (ns.map PV.int) (ns.map V.int)
  | [] => .nil
  | n :: ns => .cons (.int n) (repInts ns)
theorem fd_top {P : Program} {w : World} {K : PySem.W.Frag} {mg : Str → Option Value} {base : Heap} {k : Nat} {F : List PV → FR} {f : Addr} {fd : FuncData} {ps : List Str} (h : FnOk P w K mg base (L2.CX P w) k f fd ps (spD K mg false false 1 F)) (hF : ∀ ns : List Int, ns.length ≤ 63 → ∃ q, F [.klst (ns.map .int)] = .ok (.bl true) q) :
    FnOk P w K mg base (L2.CX P w) k f fd ps (spTop K) := h.imp fun vs H Q E q => by
  obtain ⟨a, ns, rfl, hl, hs, hq⟩ := q
  obtain ⟨q, e⟩ := hF ns hl
  refine ⟨rfl, H, fun _ => False, [.klst (ns.map .int)], fun _ _ z => z.elim, ⟨rfl, Same.refl _, Same.refl _, fun _ _ e => .inl e, fun _ _ e _ => e, fun b o e => ⟨o, e⟩, fun i p e => ?_, fun i s p e es => ?_, fun i j s t p q c e es => ?_⟩, (fun z => by cases z), ?_⟩
  · cases i with
    | zero =>
      cases e
      exact ⟨.ref a, rfl, .klst hs (repInts ns)⟩
    | succ i => simp [argSl] at e
  · cases i with
    | zero => cases e; cases es
    | succ i => simp [argSl] at e
  · cases i with
    | zero => cases e; cases es
    | succ i => simp [argSl] at e
  · rw [e]
    intro v S' H' _ r
    have r : Rep K S' (.bl true) v := by simpa [RetRep] using r
    cases r
    exact hq H'
end PL
namespace PL
open PySem PySem.Spec L2
open PyProof.Rows hiding St
set_option autoImplicit false
/-! ### except X as n: return n.field -/
theorem clause {X : Cx} {n x fld : Str} {i : Nat} {q q' p1 p2 p3 : Pos} {hs : List ExceptHandler} {cl : List Clause} (E : Ec X.prog X.w X.K X.mg X.base x fld) (h : Clauses X n hs cl) (hg : Gl X x := by rfl) (hN : X.N[i]? = some n := by rfl) (hv : Vis X.env.scope n := by first | exact Or.inl rfl | exact Or.inr (Or.inl rfl) | exact Or.inr (Or.inr rfl))
    (hb : attributeBase (.Name n p1) fld X.env (eval (.Name n p1) X.env) = eval (.Name n p1) X.env := by rfl) (hd : (n == ("__debug__" : Str)) = false := by decide) (hcd : (n == ("__classdict__" : Str)) = false := by decide) (hdb : (x == ("__debug__" : Str)) = false := by decide) :
    Clauses X n (.ExceptHandler (some (.Name x q)) (some n) [.Return (some (.Attribute (.Name n p1) fld p2)) p3] q' :: hs) ((.ref (He.ga X.K x), fun a cls d => tRet (tXf a cls d (He.ga X.K x) fld (tVar i))) :: cl) :=
  .cons ⟨hg, hdb, .inl E.at_⟩ (fun a ob cls d pn hz hf => pss_one (ps_ret (pe_xf E.k.xf E.k.fld hz hf (pe_var hN hv hd hcd) hb))) h
/-- nothing is promised -/
theorem dss_bad {X : Cx} {W : WX} {fr : Bool} {sts : List Stmt} : DSs X W fr sts (fun _ => .bad) := ⟨fun pins s σ H D I q => by
  obtain ⟨_, _, _, _, _, _, z⟩ := q
  exact z.elim⟩
end PL

set_option Elab.async false
set_option linter.all false
set_option maxRecDepth 100000
set_option maxHeartbeats 4000000
namespace PL
open PySem PySem.Spec L2 He
set_option autoImplicit false
/-! ### what is looked at behind the top: the statics too -/
def frY (g : Addr → Option Obj) (n : Nat) : PySem.W.Frag := frG g [cStatics] ++ frT g (asD g n)
theorem frY_in {n : Nat} {h : Heap} : (frY h.get? n).In h := fun a o e => by
  have m := lookup_mem (show (frG h.get? [cStatics] ++ frT h.get? (asD h.get? n)).lookup a = some o from e)
  rcases List.mem_append.mp m with m | m
  · exact frG_mem m
  · exact frG_mem (List.mem_filter.mp m).1
abbrev AlY : Type := AlT × Bool
def obsY (n : Nat) (fa : List Fa) (fn : List DefD) (ex : PySem.W.Frag → Bool) (g : Addr → Option Obj) : AlY := (obsT fa fn [] (frY g n), ex (frY g n))
structure SaysY (fa : List Fa) (fn : List DefD) (ex : PySem.W.Frag → Bool) (w : World) (K : PySem.W.Frag) : Prop where
  t : SaysT fa fn [] w K
  more : ex K = true
def hookY (n : Nat) (fa : List Fa) (fn : List DefD) (ex : PySem.W.Frag → Bool) : PySem.W.Hook where
  α := AlY
  obs := fun s => obsY n fa fn ex s.heap.get?
  val := fun w => (valT fn [] w, true)
  says := fun w h => ∃ K : PySem.W.Frag, K.In h ∧ SaysY fa fn ex w K
  of := fun _ _ e => ⟨_, frY_in, congrArg (fun z : AlY => z.1) e, congrArg (fun z : AlY => z.2) e⟩
  keeps := fun _ _ _ ⟨K, hK, c⟩ k => ⟨K, PySem.W.Frag.In.keeps hK k, c⟩
theorem obsY_eq {n : Nat} {fa : List Fa} {fn : List DefD} {ex : PySem.W.Frag → Bool} {g : Addr → Option Obj} {s : Shared} (h : ∀ a, g a = s.heap.get? a) : obsY n fa fn ex g = (hookY n fa fn ex).obs s := by
  have e : g = s.heap.get? := funext h
  rw [e] <;> rfl
/-- some world's -/
def CXA (P : Program) : CXT := fun outer H s E u s' => ∃ w, L2.CX P w outer H s E u s'
theorem FnOk.anyW {P : Program} {w : World} {K : PySem.W.Frag} {mg : Str → Option Value} {base : Heap} {k : Nat} {f : Addr} {fd : FuncData} {ps : List Str} {sp : Sp} (F : FnOk P w K mg base (L2.CX P w) k f fd ps sp) : FnOk P w K mg base (CXA P) k f fd ps sp :=
  ⟨F.len, fun A outer s H args us vs Q E hr he hb hv hs => codeAny_mono (F.run A outer s H args us vs Q E hr he hb hv hs) fun r s' z => by
    cases r with
    | ok fin => cases fin <;> exact z
    | error e => exact ⟨w, z⟩⟩
theorem CXA.none {P : Program} (H : Hp) (s : Shared) (e : Value) (s' : Shared) (h : CXA P [] H s (fun _ _ _ => False) e s') : False := by
  obtain ⟨w, _, _, _, _, _, _, _, _, _, _, _, _, z⟩ := h
  exact z
end PL

set_option Elab.async false
set_option linter.all false
set_option maxRecDepth 100000
set_option maxHeartbeats 4000000
namespace PL
open PySem PySem.Spec L2
set_option autoImplicit false
/-! ### reading denotations: rules for simp -/
section
variable {p q z : PV} {ρ ρ1 : Env} {i j : Nat} {da db dc : Den} {dt du : DenB} {dl dr : DenL} {dla : DenO} {a b : DenS} {g g' : PV → PV → Option PV} {F : List PV → FR} {s : Sl} {r : Env} {own : List Nat} {dg : DenG} {dh : DenO} {T : String}
@[simp] theorem ap_dC : dC p ρ = .ok p ρ := id rfl
@[simp] theorem ap_dVar : dVar i ρ = match ρ[i]? with
  | some (.sh p) => .ok p ρ
  | some (.ow p) => .ok p (ρ.set i (.sh p))
  | _ => .bad := id rfl
@[simp] theorem ap_slot : slot ρ i = match ρ[i]? with
  | some s => s.pv?
  | none => none := by unfold slot; cases ρ[i]? <;> rfl
@[simp] theorem pv_sh : Sl.pv? (.sh p) = some p := id rfl
@[simp] theorem pv_ow : Sl.pv? (.ow p) = some p := id rfl
@[simp] theorem pv_io : Sl.pv? (.io p) = some p := id rfl
@[simp] theorem ap_own : ownAt ρ i = match ρ[i]? with
  | some (.ow p) => some (.ow p, p)
  | some (.io p) => some (.io p, p)
  | _ => none := id rfl
@[simp] theorem with_ow : Sl.with (.ow p) q = .ow q := id rfl
@[simp] theorem with_io : Sl.with (.io p) q = .io q := id rfl
@[simp] theorem ap_d1 {g : PV → Option PV} : d1 g da ρ = (da ρ).bind fun p ρ1 => opt (g p) ρ1 := id rfl
@[simp] theorem ap_d2 : d2 g da db ρ = (da ρ).bind fun p ρ1 => (db ρ1).bind fun q ρ2 => opt (g p q) ρ2 := id rfl
@[simp] theorem ap_d2l : d2l g i db ρ = match slot ρ i with
  | none => .bad
  | some _ => (db ρ).bind fun q ρ1 => match slot ρ1 i with
    | none => .bad
    | some p => opt (g p q) ρ1 := id rfl
@[simp] theorem ap_d2r : d2r g da i ρ = (da ρ).bind fun p ρ1 => match slot ρ1 i with
    | none => .bad
    | some q => opt (g p q) ρ1 := id rfl
@[simp] theorem ap_d1v {g : PV → Option PV} : d1v g i ρ = match slot ρ i with
    | some p => opt (g p) ρ
    | _ => .bad := id rfl
@[simp] theorem ap_dNil : dNil ρ = .ok [] ρ := id rfl
@[simp] theorem ap_dCons : dCons da dl ρ = (da ρ).bind fun p ρ1 => (dl ρ1).bind fun ps ρ2 => .ok (p :: ps) ρ2 := id rfl
@[simp] theorem ap_dN {g : List PV → Option PV} : dN g dl ρ = (dl ρ).bind fun ps ρ1 => opt (g ps) ρ1 := id rfl
@[simp] theorem ap_dIf : dIf dt da db ρ = (dt ρ).bind fun b ρ1 => if b = true then da ρ1 else db ρ1 := id rfl
@[simp] theorem ap_bAnd : bAnd dt du ρ = (dt ρ).bind fun b ρ1 => if b = true then du ρ1 else .ok false ρ1 := id rfl
@[simp] theorem ap_bOr : bOr dt du ρ = (dt ρ).bind fun b ρ1 => if b = true then .ok true ρ1 else du ρ1 := id rfl
@[simp] theorem ap_bNot : bNot dt ρ = (dt ρ).bind fun b ρ1 => .ok (!b) ρ1 := id rfl
@[simp] theorem ap_bVal : bVal da ρ = (da ρ).bind fun p ρ1 => opt p.bool? ρ1 := id rfl
@[simp] theorem ap_bool (b : Bool) : PV.bool? (.bl b) = some b := id rfl
@[simp] theorem ap_bTru : bTru da ρ = (da ρ).bind fun p ρ1 => opt (truth p) ρ1 := id rfl
@[simp] theorem ap_bTruV : bTruV i ρ = match slot ρ i with
  | some p => opt (truth p) ρ
  | none => .bad := id rfl
@[simp] theorem ap_bYes : bYes ρ = .ok true ρ := id rfl
@[simp] theorem ap_dAndT : dAndT da db ρ = (da ρ).bind fun p ρ1 => match truth p with
  | none => .bad
  | some b => if b = true then db ρ1 else .ok p ρ1 := id rfl
@[simp] theorem ap_dOrT : dOrT da db ρ = (da ρ).bind fun p ρ1 => match truth p with
  | none => .bad
  | some b => if b = true then .ok p ρ1 else db ρ1 := id rfl
@[simp] theorem ap_dNotT : dNotT da ρ = (da ρ).bind fun p ρ1 => opt ((truth p).map fun b => .bl (!b)) ρ1 := id rfl
@[simp] theorem ap_dChain : dChain g g' da db dc ρ = (da ρ).bind fun p ρ1 => (db ρ1).bind fun q ρ2 => match g p q with
  | some (.bl true) => (dc ρ2).bind fun r ρ3 => opt (g' q r) ρ3
  | some (.bl false) => .ok (.bl false) ρ2
  | _ => .bad := id rfl
@[simp] theorem ap_dLst : dLst dl ρ = (dl ρ).bind fun ps ρ1 => if ps.length ≤ sizeLine then .ok (.lst ps) ρ1 else .bad := id rfl
@[simp] theorem ap_dTup : dTup dl ρ = (dl ρ).bind fun ps ρ1 => if ps.length ≤ sizeLine then .ok (.tup ps) ρ1 else .bad := id rfl
@[simp] theorem ap_oNone : oNone ρ = .ok none ρ := id rfl
@[simp] theorem ap_dMut {g : PV → List PV → Option (PV × PV)} : dMut T g i dl ρ = match ownAt ρ i with
  | none => .bad
  | some (_, p0) => if isT T p0 = true then (dl ρ).bind fun ps ρ1 => match ownAt ρ1 i with
    | none => .bad
    | some (s, p) => match g p ps with
      | none => .bad
      | some (q, z) => .ok z (ρ1.set i (s.with q))
    else .bad := id rfl
@[simp] theorem ap_dMut0 {g : PV → List PV → Option (PV × PV)} : dMut0 T g i ρ = match ownAt ρ i with
  | none => .bad
  | some (s, p) => if isT T p = true then (match g p [] with
      | none => .bad
      | some (q, z) => .ok z (ρ.set i (s.with q))) else .bad := id rfl
@[simp] theorem ap_isT {ps : List PV} : isT "list" (.lst ps) = true := id rfl
@[simp] theorem ap_dCall : dCall F dl ρ = (dl ρ).bind fun ps ρ1 => match F ps with
  | .bad => .bad
  | .exc x => .exc x ρ1
  | .ok p _ => .ok p ρ1 := id rfl
@[simp] theorem ap_dCallIo : dCallIo F i dl ρ = match ownAt ρ i with
  | none => .bad
  | some _ => (dl ρ).bind fun ps ρ1 => match ownAt ρ1 i with
    | none => .bad
    | some (s, p) => match F (p :: ps) with
      | .bad => .bad
      | .exc x => .exc x (ρ1.set i .un)
      | .ok z q => .ok z (ρ1.set i (s.with q)) := id rfl
@[simp] theorem ap_dLc {di : DenL} : dLc own di dg dt da ρ = (di ρ).bind fun xs ρ1 => match lcLoop own dg dt da xs (lockE own ρ1) with
  | some (ys, ρ2) => if ys.length ≤ 1000000 then .ok (.lst ys) (backE own ρ1 ρ2) else .bad
  | none => .bad := id rfl
/-! statements -/
@[simp] theorem ap_sNx : sNx ρ = .nx ρ := id rfl
@[simp] theorem ap_sBk : sBk ρ = .bk ρ := id rfl
@[simp] theorem ap_sCt : sCt ρ = .ct ρ := id rfl
@[simp] theorem ap_sSeq : sSeq a b ρ = match a ρ with
  | .nx ρ1 => b ρ1
  | r => r := id rfl
@[simp] theorem ap_sExpr : sExpr da ρ = (da ρ).bindS fun _ ρ1 => .nx ρ1 := id rfl
@[simp] theorem ap_sRet : sRet da ρ = (da ρ).bindS fun p ρ1 => .rt p ρ1 := id rfl
@[simp] theorem ap_sRetN : sRetN ρ = .rt .non ρ := id rfl
@[simp] theorem ap_sRetO : sRetO i ρ = match ρ[i]? with
  | some (.ow p) => .rt p (ρ.set i .un)
  | _ => .bad := id rfl
@[simp] theorem ap_sIf : sIf dt a b ρ = (dt ρ).bindS fun c ρ1 => if c = true then a ρ1 else b ρ1 := id rfl
@[simp] theorem ap_sSet : sSet i da ρ = (da ρ).bindS fun p ρ1 => .nx (ρ1.set i (.sh p)) := id rfl
@[simp] theorem ap_sSetF : sSetF i da ρ = (da ρ).bindS fun p ρ1 => .nx (ρ1.set i (.ow p)) := id rfl
@[simp] theorem ap_sAsg : sAsg da dg ρ = (da ρ).bindS fun p ρ1 => match dg p ρ1 with
  | some ρ2 => .nx ρ2
  | none => .bad := id rfl
@[simp] theorem ap_sAug : sAug i g da ρ = match slot ρ i with
  | none => .bad
  | some _ => (da ρ).bindS fun q ρ1 => match slot ρ1 i with
    | none => .bad
    | some p => match g p q with
      | some z => .nx (ρ1.set i (.sh z))
      | none => .bad := id rfl
@[simp] theorem ap_sSub {g : PV → PV → PV → Option PV} : sSub g i db da ρ = (da ρ).bindS fun e ρ1 => match ownAt ρ1 i with
  | none => .bad
  | some _ => (db ρ1).bindS fun k ρ2 => match ownAt ρ2 i with
    | none => .bad
    | some (s, p) => match g p k e with
      | none => .bad
      | some q => .nx (ρ2.set i (s.with q)) := id rfl
@[simp] theorem ap_sFor {di : DenL} : sFor di dg b ρ = (di ρ).bindS fun xs ρ1 => dLoop dg b xs ρ1 := id rfl
@[simp] theorem ap_sRaise {x f : Str} : sRaise x f da ρ = (da ρ).bindS fun p ρ1 => match p with
  | .str z => if z.length ≤ 1000 then .exc ⟨x, f, .str z⟩ ρ1 else .bad
  | _ => .bad := id rfl
@[simp] theorem ap_gName : gName i p ρ = some (ρ.set i (.sh p)) := id rfl
@[simp] theorem ap_gTup {gs : List PV → Env → Option Env} {ps : List PV} : gTup gs (.tup ps) ρ = gs ps ρ := id rfl
@[simp] theorem ap_gsCons {gs : List PV → Env → Option Env} {ps : List PV} : gsCons dg gs (p :: ps) ρ = (dg p ρ).bind (gs ps) := id rfl
@[simp] theorem ap_gsNil : gsNil [] ρ = some ρ := id rfl
@[simp] theorem ap_iSeq : iSeq da ρ = (da ρ).bind fun p ρ1 => opt (seqOf p) ρ1 := id rfl
@[simp] theorem ap_seqL {ps : List PV} : seqOf (.lst ps) = some ps := id rfl
@[simp] theorem ap_seqT {ps : List PV} : seqOf (.tup ps) = some ps := id rfl
@[simp] theorem ap_seqS {x : Str} : seqOf (.str x) = some (signs x) := id rfl
def rg1 (ps : List PV) (ρ1 : Env) : Rs (List PV) := match ps with
  | [.int j] => if decide (-(2 ^ 62) ≤ j) && decide (j < 2 ^ 62) then .ok (rangeP 0 j.toNat) ρ1 else .bad
  | _ => .bad
def rg2 (ps : List PV) (ρ1 : Env) : Rs (List PV) := match ps with
  | [.int i, .int j] => if (decide (-(2 ^ 62) ≤ i) && decide (i < 2 ^ 62)) && (decide (-(2 ^ 62) ≤ j) && decide (j < 2 ^ 62)) then .ok (rangeP i (j - i).toNat) ρ1 else .bad
  | _ => .bad
@[simp] theorem ap_iR1 : iR1 dl ρ = (dl ρ).bind fun ps ρ1 => rg1 ps ρ1 := id rfl
@[simp] theorem ap_iR2 : iR2 dl ρ = (dl ρ).bind fun ps ρ1 => rg2 ps ρ1 := id rfl
theorem rg1_ok {j : Int} (h1 : -1000000000 ≤ j) (h2 : j ≤ 1000000000) : rg1 [.int j] ρ = .ok (rangeP 0 j.toNat) ρ := by
  have h1 : decide (-(2 ^ 62) ≤ j) = true := decide_eq_true (by omega)
  have h2 : decide (j < 2 ^ 62) = true := decide_eq_true (by omega)
  simp only [rg1, h1, h2]
  rfl
theorem rg2_ok {i j : Int} (h1 : -1000000000 ≤ i) (h2 : i ≤ 1000000000) (h3 : -1000000000 ≤ j) (h4 : j ≤ 1000000000) : rg2 [.int i, .int j] ρ = .ok (rangeP i (j - i).toNat) ρ := by
  have h1 : decide (-(2 ^ 62) ≤ i) = true := decide_eq_true (by omega)
  have h2 : decide (i < 2 ^ 62) = true := decide_eq_true (by omega)
  have h3 : decide (-(2 ^ 62) ≤ j) = true := decide_eq_true (by omega)
  have h4 : decide (j < 2 ^ 62) = true := decide_eq_true (by omega)
  simp only [rg2, h1, h2, h3, h4]
  rfl
theorem rg1_nat {n : Nat} (h : n ≤ 1000000000) : rg1 [.int (n : Int)] ρ = .ok (rangeP 0 n) ρ := by
  rw [rg1_ok (by omega) (by omega)]; rfl
/-! operations -/
@[simp] theorem ap_addI (i j : Int) : gAdd (.int i) (.int j) = some (.int (i + j)) := id rfl
@[simp] theorem ap_addS (x y : Str) : gAdd (.str x) (.str y) = if x.length + y.length ≤ sizeLine then some (.str (x ++ y)) else none := id rfl
@[simp] theorem ap_addL (x y : List PV) : gAdd (.lst x) (.lst y) = if x.length + y.length ≤ sizeLine then some (.lst (x ++ y)) else none := id rfl
@[simp] theorem ap_augI (i j : Int) : gAugAdd (.int i) (.int j) = some (.int (i + j)) := id rfl
@[simp] theorem ap_augS (x y : Str) : gAugAdd (.str x) (.str y) = if x.length + y.length ≤ sizeLine then some (.str (x ++ y)) else none := id rfl
@[simp] theorem ap_subI (i j : Int) : gSub (.int i) (.int j) = some (.int (i - j)) := id rfl
@[simp] theorem ap_mulI (i j : Int) : gMul (.int i) (.int j) = if smallI i || smallI j then some (.int (i * j)) else none := id rfl
@[simp] theorem ap_fdivI (i j : Int) : gFdiv (.int i) (.int j) = if decide (0 < j) && decide (j < 1073741824) then some (.int (i / j)) else none := id rfl
@[simp] theorem ap_modI (i j : Int) : gMod (.int i) (.int j) = if decide (0 < j) then some (.int (i % j)) else none := id rfl
@[simp] theorem ap_powI (i j : Int) : gPow (.int i) (.int j) = if decide (0 ≤ j) && decide (j ≤ 1000000) && decide (i.natAbs < 2 ^ 64) then some (.int (i ^ j.toNat)) else none := id rfl
@[simp] theorem ap_negI (i : Int) : gNeg (.int i) = some (.int (-i)) := id rfl
@[simp] theorem ap_cmpI (f : Int → Int → Bool) (i j : Int) : gCmpI f (.int i) (.int j) = some (.bl (f i j)) := id rfl
@[simp] theorem ap_intI (i : Int) : gInt [.int i] = some (.int i) := id rfl
@[simp] theorem ap_intB (b : Bool) : gInt [.bl b] = some (.int (if b then 1 else 0)) := id rfl
@[simp] theorem ap_absI (i : Int) : gAbs [.int i] = some (.int (if i < 0 then -i else i)) := id rfl
@[simp] theorem ap_max2 (i j : Int) : gMax2 [.int i, .int j] = some (.int (if j > i then j else i)) := id rfl
@[simp] theorem ap_min2 (i j : Int) : gMin2 [.int i, .int j] = some (.int (if j < i then j else i)) := id rfl
@[simp] theorem ap_lenL (ps : List PV) : gLen (.lst ps) = some (.int ps.length) := id rfl
@[simp] theorem ap_lenK (ps : List PV) : gLen (.klst ps) = some (.int ps.length) := id rfl
@[simp] theorem ap_lenT (ps : List PV) : gLen (.tup ps) = some (.int ps.length) := id rfl
@[simp] theorem ap_lenS (x : Str) : gLen (.str x) = if x.length ≤ sizeLine then some (.int x.length) else none := id rfl
@[simp] theorem ap_lenN : gLenN [p] = gLen p := id rfl
@[simp] theorem ap_ixL (ps : List PV) (i : Int) : gIx (.lst ps) (.int i) = atI ps i := id rfl
@[simp] theorem ap_ixT (ps : List PV) (i : Int) : gIx (.tup ps) (.int i) = atI ps i := id rfl
@[simp] theorem ap_ixK (ps : List PV) (i : Int) : gIx (.klst ps) (.int i) = atI ps i := id rfl
theorem ap_ixS (z : Str) (i : Int) : gIx (.str z) (.int i) = if z.length ≤ sizeLine then (atI z.cps.toList i).map fun c => .str ⟨#[c]⟩ else none := id rfl
@[simp] theorem ap_app (ps : List PV) (p : PV) : gAppend (.lst ps) [p] = if ps.length < sizeLine then some (.lst (ps ++ [p]), .non) else none := id rfl
@[simp] theorem ap_pop (ps : List PV) : gPop (.lst ps) [] = (ps[ps.length - 1]?).map fun p => (.lst ps.dropLast, p) := id rfl
@[simp] theorem ap_rev (ps : List PV) : gReverse (.lst ps) [] = some (.lst ps.reverse, .non) := id rfl
@[simp] theorem ap_setL (ps : List PV) (i : Int) (e : PV) : gSetL (.lst ps) (.int i) e = (ixN ps.length i).map fun j => .lst (ps.set j e) := id rfl
@[simp] theorem ap_cat (ps qs : List PV) : gCat (.lst ps) (.lst qs) = if ps.length + qs.length ≤ sizeLine then some (.lst (ps ++ qs)) else none := id rfl
end
end PL

set_option Elab.async false
set_option linter.all false
set_option maxRecDepth 100000
set_option maxHeartbeats 4000000
namespace PL
open PySem PySem.Spec L2
set_option autoImplicit false
/-! ### loops -/
theorem seq_nx {a b : DenS} {ρ ρ1 : Env} (h : a ρ = .nx ρ1) : sSeq a b ρ = b ρ1 := by rw [ap_sSeq, h]

theorem dLoop_inv {tgt : DenG} {body : DenS} {items : List PV} (Inv : Nat → Env → Prop) (h : ∀ i x ρ, items[i]? = some x → Inv i ρ → ∃ ρ1 ρ2, tgt x ρ = some ρ1 ∧ (body ρ1 = .nx ρ2 ∨ body ρ1 = .ct ρ2) ∧ Inv (i + 1) ρ2) {ρ0 : Env} (h0 : Inv 0 ρ0) :
    ∃ ρ, dLoop tgt body items ρ0 = .nx ρ ∧ Inv items.length ρ := by
  induction items generalizing Inv ρ0 with
  | nil => exact ⟨ρ0, rfl, h0⟩
  | cons x xs ih =>
    obtain ⟨ρ1, ρ2, e1, e2, h2⟩ := h 0 x ρ0 rfl h0
    obtain ⟨ρ, e3, h3⟩ := ih (fun i => Inv (i + 1)) (fun i y ρ hy hi => h (i + 1) y ρ (by simpa using hy) hi) h2
    refine ⟨ρ, ?_, h3⟩
    unfold dLoop
    rw [e1]
    rcases e2 with e2 | e2
    · simp only [e2]; exact e3
    · simp only [e2]; exact e3
/-- .. or it ends the def -/
theorem dLoop_or {tgt : DenG} {body : DenS} {items : List PV} (Inv : Nat → Env → Prop) (R : RS → Prop) (h : ∀ i x ρ, items[i]? = some x → Inv i ρ → ∃ ρ1, tgt x ρ = some ρ1 ∧ ((∃ ρ2, (body ρ1 = .nx ρ2 ∨ body ρ1 = .ct ρ2) ∧ Inv (i + 1) ρ2) ∨ (∃ ρ2, body ρ1 = .bk ρ2 ∧ R (.nx ρ2)) ∨ (∃ p ρ2, body ρ1 = .rt p ρ2 ∧ R (.rt p ρ2)) ∨ ∃ e ρ2, body ρ1 = .exc e ρ2 ∧ R (.exc e ρ2)))
    (hR : ∀ ρ, Inv items.length ρ → R (.nx ρ)) {ρ0 : Env} (h0 : Inv 0 ρ0) : R (dLoop tgt body items ρ0) := by
  induction items generalizing Inv ρ0 with
  | nil => exact hR _ h0
  | cons x xs ih =>
    obtain ⟨ρ1, e1, h2⟩ := h 0 x ρ0 rfl h0
    unfold dLoop
    rw [e1]
    rcases h2 with ⟨ρ2, e2, h2⟩ | ⟨ρ2, e2, h2⟩ | ⟨p, ρ2, e2, h2⟩ | ⟨e, ρ2, e2, h2⟩
    · have z := ih (fun i => Inv (i + 1)) (fun i y ρ hy hi => h (i + 1) y ρ (by simpa using hy) hi) (fun ρ hi => hR ρ hi) h2
      rcases e2 with e2 | e2
      · simp only [e2]; exact z
      · simp only [e2]; exact z
    · simp only [e2]; exact h2
    · simp only [e2]; exact h2
    · simp only [e2]; exact h2
/-- a comprehension, its items one by one -/
theorem lcLoop_inv {own : List Nat} {tgt : DenG} {test : DenB} {elt : Den} {items : List PV} (Inv : Nat → List PV → Env → Prop)
    (h : ∀ i x ys ρ, items[i]? = some x → Inv i ys ρ → ∃ ρ1, tgt x ρ = some ρ1 ∧ ((∃ ρ2 y ρ3, test ρ1 = .ok true ρ2 ∧ elt ρ2 = .ok y ρ3 ∧ noOw ρ3 = true ∧ Inv (i + 1) (ys ++ [y]) (wipeE own ρ3)) ∨ (∃ ρ2, test ρ1 = .ok false ρ2 ∧ noOw ρ2 = true ∧ Inv (i + 1) ys (wipeE own ρ2)))) :
    ∀ {ρ0 : Env} {ys0 : List PV}, Inv 0 ys0 ρ0 → ∃ ys ρ, lcLoop own tgt test elt items ρ0 = some (ys, ρ) ∧ Inv items.length (ys0 ++ ys) ρ := by
  induction items generalizing Inv with
  | nil => intro ρ0 ys0 h0; exact ⟨[], ρ0, rfl, by rw [List.append_nil]; exact h0⟩
  | cons x xs ih =>
    intro ρ0 ys0 h0
    obtain ⟨ρ1, e1, h2⟩ := h 0 x ys0 ρ0 rfl h0
    have h' : ∀ i y ys ρ, xs[i]? = some y → Inv (i + 1) ys ρ → _ := fun i y ys ρ hy hi => h (i + 1) y ys ρ (by simpa using hy) hi
    rcases h2 with ⟨ρ2, y, ρ3, e2, e3, e4, h2⟩ | ⟨ρ2, e2, e4, h2⟩
    · obtain ⟨ys, ρ, e5, h5⟩ := ih (fun i => Inv (i + 1)) h' h2
      refine ⟨y :: ys, ρ, ?_, by rw [List.append_assoc] at h5; exact h5⟩
      unfold lcLoop
      simp only [e1, e2, e3, e4, e5, if_true]
    · obtain ⟨ys, ρ, e5, h5⟩ := ih (fun i => Inv (i + 1)) h' h2
      refine ⟨ys, ρ, ?_, h5⟩
      unfold lcLoop
      simp only [e1, e2, e4, e5, if_true]
theorem rangeP_get {lo : Int} {n i : Nat} {x : PV} (h : (rangeP lo n)[i]? = some x) : i < n ∧ x = .int (lo + i) := by
  unfold rangeP at h
  rw [List.getElem?_map] at h
  cases e : (List.range n)[i]? with
  | none => rw [e] at h; cases h
  | some c =>
    rw [e] at h; cases h
    have hi := (List.getElem?_eq_some_iff.mp e).1
    rw [List.length_range] at hi
    rw [List.getElem?_range hi] at e
    cases e
    exact ⟨hi, rfl⟩
@[simp] theorem rangeP_len {lo : Int} {n : Nat} : (rangeP lo n).length = n := by simp [rangeP]
/-! ### the deck -/
def den_take : DenS :=
  (sSeq (sIf (bVal (d2 gEq (d1v gLen 0) (dC (.int 0)))) (sRet (dC (.int 0))) sNx)
    (sRet (dMod (dN gInt (dCons (dMut0 "list" gPop 0) dNil)) (dVar 1))))
def F_take : List PV → FR := runD true false 2 2 den_take
def B_deck_2 : DenS :=
  (sSeq (sExpr (dMut "list" gAppend 3 (dCons (dMod (dN gInt (dCons (dVar 7) dNil)) (dC (.int 1000003))) dNil)))
    (sSet 7 (dFdiv (dVar 7) (dC (.int 1000003)))))
def B_deck_3 : DenS :=
  (sSeq (sSet 4 (dMod (dN gInt (dCons (dAdd (dAdd (dMul (dVar 4) (dC (.int 69621))) (dVar 8)) (dC (.int 1))) dNil)) (dC (.int 2147483629))))
    (sExpr (dMut "list" gAppend 3 (dCons (dMod (dN gInt (dCons (dFdiv (dVar 4) (dC (.int 5))) dNil)) (dC (.int 1000003))) dNil))))
def B_deck_1 : DenS :=
  (sSeq (sSet 6 (dC (.int 0)))
    (sSeq (sIf (bVal (d2 gLt (dVar 5) (dN gLenN (dCons (dVar 0) dNil)))) (sSet 6 (d2 gIx (dVar 0) (dVar 5))) sNx)
    (sSeq (sSet 7 (dN gAbs (dCons (dVar 6) dNil)))
    (sIf (bVal (d2 gGe (dVar 7) (dPow (dC (.int 10)) (dC (.int 30))))) (sFor (iR1 (dCons (dVar 2) dNil)) (gName 8) B_deck_2) (sSeq (sSet 4 (dMod (dN gInt (dCons (dAdd (dAdd (dAdd (dMul (dVar 4) (dC (.int 48271))) (dMul (dC (.int 2)) (dVar 7))) (dN gInt (dCons (d2 gLt (dVar 6) (dC (.int 0))) dNil))) (dVar 5)) dNil)) (dC (.int 2147483647))))
    (sFor (iR1 (dCons (dVar 2) dNil)) (gName 8) B_deck_3))))))
def den_deck : DenS :=
  (sSeq (sSetF 3 (dLst dNil))
    (sSeq (sSet 4 (dAdd (dC (.int 7)) (dN gLenN (dCons (dVar 0) dNil))))
    (sSeq (sFor (iR1 (dCons (dVar 1) dNil)) (gName 5) B_deck_1)
    (sSeq (sExpr (dMut0 "list" gReverse 3))
    (sRetO 3)))))
def F_deck : List PV → FR := runD false true 3 9 den_deck
def den_plain (F_plain : List PV → FR) : DenS :=
  (sSeq (sIf (bTru (d1 (gIsi2 "tuple" "list") (dVar 0))) (sRet (dAdd (dLst (dCons (d1 (gIsi "list") (dVar 0)) dNil)) (dLc ([(("item" : Str), 1)].map (·.2)) (iSeq (dVar 0)) (gName 1) bYes (dCall F_plain (dCons (dVar 1) dNil))))) sNx)
    (sSeq (sIf (bOr (bVal (d2 (gIsN false) (dVar 0) (dC .non))) (bTru (d1 (gIsi "bool") (dVar 0)))) (sRet (d2 gIx (dLst (dCons (dC (.str ("None" : Str))) (dCons (dC (.str ("False" : Str))) (dCons (dC (.str ("True" : Str))) dNil)))) (dAdd (dN gInt (dCons (d2 (gIsN true) (dVar 0) (dC .non)) dNil)) (dN gInt (dCons (d2 (gIsBB false) (dVar 0) (dC (.bl true))) dNil))))) sNx)
    (sSeq (sIf (bTru (d1 (gIsi2 "int" "str") (dVar 0))) (sRet (dLst (dCons (d1 (gIsi "str") (dVar 0)) (dCons (dVar 0) dNil)))) sNx)
    (sRet (dC (.str ("another" : Str)))))))
def F_plain_ : Nat → List PV → FR
  | 0 => runD false false 1 2 (fun _ => .bad)
  | n + 1 => runD false false 1 2 (den_plain (F_plain_ n))
/-- a deck: the next card first -/
def dk (ds : List Int) : PV := .lst (ds.reverse.map .int)
def tk : List Int → Int → Int × List Int
  | [], _ => (0, [])
  | x :: ds, m => (x % m, ds)
theorem tk_lt {ds : List Int} {m : Int} (h : 0 < m) : 0 ≤ (tk ds m).1 ∧ (tk ds m).1 < m := by
  cases ds with
  | nil => exact ⟨Int.le_refl 0, h⟩
  | cons x ds => exact ⟨Int.emod_nonneg _ (by omega), Int.emod_lt_of_pos _ h⟩
@[simp] theorem shaped_int (i : Int) : SeqAt.shaped (PV.toD (.int i)) = true := rfl
theorem eqv_int (i j : Int) : PyData.eqv (.int i) (.int j) = decide (i = j) := by
  simp only [PyData.eqv]
  by_cases h : i = j <;> simp [h]
@[simp] theorem pvEq_int (i j : Int) : pvEq (.int i) (.int j) = decide (i = j) := eqv_int i j
@[simp] theorem ap_eqI (i j : Int) : gEq (.int i) (.int j) = some (.bl (decide (i = j))) := by
  unfold gEq; simp
@[simp] theorem ap_neI (i j : Int) : gNe (.int i) (.int j) = some (.bl (!decide (i = j))) := by
  unfold gNe; simp
theorem F_take_eq {ds : List Int} {m : Int} (h : 0 < m) : F_take [dk ds, .int m] = .ok (.int (tk ds m).1) (dk (tk ds m).2) := by
  cases ds with
  | nil => simp [F_take, den_take, runD, argSl, dk, tk, fin0, io0]
  | cons x ds =>
    have h0 : ¬ ((ds.length : Int) + 1 = 0) := by omega
    simp [F_take, den_take, runD, argSl, dk, tk, fin0, io0, h, h0]

theorem ixN_nat {n i : Nat} (h : i < n) : ixN n (i : Int) = some i := by
  unfold ixN
  rw [if_pos (by omega), if_pos (by omega)]
  simp
theorem atI_nat {α : Type} {xs : List α} {i : Nat} (h : i < xs.length) : L2.atI xs (i : Int) = some xs[i] := by
  unfold L2.atI
  rw [ixN_nat h]
  exact List.getElem?_eq_getElem h
/-- the deck's slots -/
def dkE (sc : PV) (c e : Nat) (ds : List Int) (seed : Int) (s5 s6 s7 s8 : Sl) : Env := [.sh sc, .sh (.int c), .sh (.int e), .ow (.lst (ds.map .int)), .sh (.int seed), s5, s6, s7, s8]
theorem app_int {ds : List Int} {x : Int} (h : ds.length < sizeLine) : gAppend (.lst (ds.map .int)) [.int x] = some (.lst ((ds ++ [x]).map .int), .non) := by
  rw [ap_app, List.length_map, if_pos h, List.map_append]; rfl
theorem deck_one2 {sc : PV} {c e i : Nat} {ds : List Int} {seed rest : Int} {s5 s6 s8 : Sl} (h : ds.length < sizeLine) :
    B_deck_2 (dkE sc c e ds seed s5 s6 (.sh (.int rest)) s8) = .nx (dkE sc c e (ds ++ [rest % 1000003]) seed s5 s6 (.sh (.int (rest / 1000003))) s8) := by
  simp [B_deck_2, dkE, h]
theorem deck_in2 {sc : PV} {c e : Nat} {ds : List Int} {seed : Int} {s5 s6 s8 : Sl} {rest : Int} (hr : ds.length + e ≤ sizeLine) (he : e ≤ 1000000000) :
    ∃ (ds' : List Int) (s7 s8' : Sl), ds'.length = ds.length + e ∧ sFor (iR1 (dCons (dVar 2) dNil)) (gName 8) B_deck_2 (dkE sc c e ds seed s5 s6 (.sh (.int rest)) s8) = .nx (dkE sc c e ds' seed s5 s6 s7 s8') := by
  obtain ⟨ρ, h1, ds', rest', s8', h2, h3⟩ := dLoop_inv (tgt := gName 8) (body := B_deck_2) (items := rangeP 0 e) (ρ0 := dkE sc c e ds seed s5 s6 (.sh (.int rest)) s8)
    (fun i ρ => ∃ (ds' : List Int) (rest : Int) (s8 : Sl), ds'.length = ds.length + i ∧ ρ = dkE sc c e ds' seed s5 s6 (.sh (.int rest)) s8)
    (fun i x ρ hx hi => by
      obtain ⟨hie, rfl⟩ := rangeP_get hx
      obtain ⟨ds', rest, s8, hl, rfl⟩ := hi
      exact ⟨_, _, rfl, .inl (deck_one2 (i := 0) (by omega)), ⟨_, _, _, by rw [List.length_append, hl]; rfl, rfl⟩⟩) ⟨ds, rest, s8, rfl, rfl⟩
  refine ⟨ds', .sh (.int rest'), s8', by rw [h2, rangeP_len], ?_⟩
  rw [← h3, ← h1]
  simp [dkE, rg1_nat he]
theorem deck_one3 {sc : PV} {c e : Nat} {ds : List Int} {seed j : Int} {s5 s6 s7 : Sl} (h : ds.length < sizeLine) :
    B_deck_3 (dkE sc c e ds seed s5 s6 s7 (.sh (.int j))) = .nx (dkE sc c e (ds ++ [(seed * 69621 + j + 1) % 2147483629 / 5 % 1000003]) ((seed * 69621 + j + 1) % 2147483629) s5 s6 s7 (.sh (.int j))) := by
  simp [B_deck_3, dkE, h, smallI]
theorem deck_in3 {sc : PV} {c e : Nat} {ds : List Int} {seed : Int} {s5 s6 s7 s8 : Sl} (hr : ds.length + e ≤ sizeLine) (he : e ≤ 1000000000) :
    ∃ (ds' : List Int) (seed' : Int) (s8' : Sl), ds'.length = ds.length + e ∧ sFor (iR1 (dCons (dVar 2) dNil)) (gName 8) B_deck_3 (dkE sc c e ds seed s5 s6 s7 s8) = .nx (dkE sc c e ds' seed' s5 s6 s7 s8') := by
  obtain ⟨ρ, h1, ds', seed', s8', h2, h3⟩ := dLoop_inv (tgt := gName 8) (body := B_deck_3) (items := rangeP 0 e) (ρ0 := dkE sc c e ds seed s5 s6 s7 s8)
    (fun i ρ => ∃ (ds' : List Int) (seed : Int) (s8 : Sl), ds'.length = ds.length + i ∧ ρ = dkE sc c e ds' seed s5 s6 s7 s8)
    (fun i x ρ hx hi => by
      obtain ⟨hie, rfl⟩ := rangeP_get hx
      obtain ⟨ds', seed, s8, hl, rfl⟩ := hi
      exact ⟨_, _, rfl, .inl (deck_one3 (by omega)), ⟨_, _, _, by rw [List.length_append, hl]; rfl, rfl⟩⟩) ⟨ds, seed, s8, rfl, rfl⟩
  refine ⟨ds', seed', s8', by rw [h2, rangeP_len], ?_⟩
  rw [← h3, ← h1]
  simp [dkE, rg1_nat he]
theorem deck_one1 {ns : List Int} {c e i : Nat} {ds : List Int} {seed : Int} {s6 s7 s8 : Sl} (hr : ds.length + e ≤ sizeLine) (he : e ≤ 1000000000) :
    ∃ (ds' : List Int) (seed' : Int) (s6' s7' s8' : Sl), ds'.length = ds.length + e ∧
      B_deck_1 (dkE (.klst (ns.map .int)) c e ds seed (.sh (.int (i : Nat))) s6 s7 s8) = .nx (dkE (.klst (ns.map .int)) c e ds' seed' (.sh (.int (i : Nat))) s6' s7' s8') := by
  obtain ⟨cell, h1⟩ : ∃ cell : Int, sIf (bVal (d2 gLt (dVar 5) (dN gLenN (dCons (dVar 0) dNil)))) (sSet 6 (d2 gIx (dVar 0) (dVar 5))) sNx (dkE (.klst (ns.map .int)) c e ds seed (.sh (.int (i : Nat))) (.sh (.int 0)) s7 s8) = .nx (dkE (.klst (ns.map .int)) c e ds seed (.sh (.int (i : Nat))) (.sh (.int cell)) s7 s8) := by
    by_cases h : i < ns.length
    · refine ⟨ns[i], ?_⟩
      have h1 : L2.atI (ns.map PV.int) (i : Int) = some (.int ns[i]) := by
        rw [atI_nat (by rw [List.length_map]; exact h), List.getElem_map]
      simp [dkE, h, h1]
    · refine ⟨0, ?_⟩
      simp [dkE, h]
  have h2 : sSet 6 (dC (.int 0)) (dkE (.klst (ns.map .int)) c e ds seed (.sh (.int (i : Nat))) s6 s7 s8) = .nx (dkE (.klst (ns.map .int)) c e ds seed (.sh (.int (i : Nat))) (.sh (.int 0)) s7 s8) := by simp [dkE]
  have h3 : ∀ s7, sSet 7 (dN gAbs (dCons (dVar 6) dNil)) (dkE (.klst (ns.map .int)) c e ds seed (.sh (.int (i : Nat))) (.sh (.int cell)) s7 s8) = .nx (dkE (.klst (ns.map .int)) c e ds seed (.sh (.int (i : Nat))) (.sh (.int cell)) (.sh (.int (if cell < 0 then -cell else cell))) s8) := fun s7 => by simp [dkE]
  unfold B_deck_1
  rw [ap_sSeq, h2]
  simp only
  rw [ap_sSeq, h1]
  simp only
  rw [ap_sSeq, h3]
  simp only
  generalize (if cell < 0 then -cell else cell) = rest
  by_cases hb : (10 : Int) ^ 30 ≤ rest
  · obtain ⟨ds', s7', s8', h4, h5⟩ := deck_in2 (sc := .klst (ns.map .int)) (c := c) (e := e) (ds := ds) (seed := seed) (s5 := .sh (.int (i : Nat))) (s6 := .sh (.int cell)) (s8 := s8) (rest := rest) hr he
    refine ⟨ds', seed, .sh (.int cell), s7', s8', h4, ?_⟩
    rw [← h5]
    have hb : (1000000000000000000000000000000 : Int) ≤ rest := hb
    simp [dkE, hb]
  · obtain ⟨ds', seed', s8', h4, h5⟩ := deck_in3 (sc := .klst (ns.map .int)) (c := c) (e := e) (ds := ds) (seed := (seed * 48271 + 2 * rest + (if cell < 0 then 1 else 0) + i) % 2147483647) (s5 := .sh (.int (i : Nat))) (s6 := .sh (.int cell)) (s7 := .sh (.int rest)) (s8 := s8) hr he
    refine ⟨ds', seed', .sh (.int cell), .sh (.int rest), s8', h4, ?_⟩
    rw [← h5]
    have hb : ¬ (1000000000000000000000000000000 : Int) ≤ rest := hb
    simp [dkE, hb, smallI]
theorem F_deck_eq {ns : List Int} {c e : Nat} (h : c * e ≤ sizeLine) (hc : c ≤ 1000000000) (he : e ≤ 1000000000) : ∃ ds : List Int, F_deck [.klst (ns.map .int), .int c, .int e] = .ok (dk ds) .non := by
  obtain ⟨ρ, h1, ds, seed, s5, s6, s7, s8, h2, h3⟩ := dLoop_inv (tgt := gName 5) (body := B_deck_1) (items := rangeP 0 c) (ρ0 := dkE (.klst (ns.map .int)) c e [] (7 + ns.length) .un .un .un .un)
    (fun i ρ => ∃ (ds : List Int) (seed : Int) (s5 s6 s7 s8 : Sl), ds.length = i * e ∧ ρ = dkE (.klst (ns.map .int)) c e ds seed s5 s6 s7 s8)
    (fun i x ρ hx hi => by
      obtain ⟨hic, rfl⟩ := rangeP_get hx
      obtain ⟨ds, seed, s5, s6, s7, s8, hl, rfl⟩ := hi
      have hm : (i + 1) * e ≤ c * e := Nat.mul_le_mul_right _ hic
      rw [Nat.succ_mul] at hm
      obtain ⟨ds', seed', s6', s7', s8', h4, h5⟩ := deck_one1 (ns := ns) (c := c) (e := e) (i := i) (ds := ds) (seed := seed) (s6 := s6) (s7 := s7) (s8 := s8) (by omega) he
      rw [Int.zero_add]
      exact ⟨_, _, rfl, .inl h5, ⟨ds', seed', _, s6', s7', s8', by rw [h4, hl, Nat.succ_mul], rfl⟩⟩) ⟨[], _, _, _, _, _, by simp, rfl⟩
  refine ⟨ds, ?_⟩
  subst h3
  have h4 : sFor (iR1 (dCons (dVar 1) dNil)) (gName 5) B_deck_1 (dkE (.klst (ns.map .int)) c e [] (7 + ns.length) .un .un .un .un) = .nx (dkE (.klst (ns.map .int)) c e ds seed s5 s6 s7 s8) := by
    rw [← h1]
    simp [dkE, rg1_nat hc]
  have h5 : sSeq (sExpr (dMut0 "list" gReverse 3)) (sRetO 3) (dkE (.klst (ns.map .int)) c e ds seed s5 s6 s7 s8) = .rt (dk ds) (.sh (.klst (ns.map .int)) :: .sh (.int c) :: .sh (.int e) :: .un :: .sh (.int seed) :: [s5, s6, s7, s8]) := by
    simp [dkE, dk]
  have h6 : den_deck (argSl false [.klst (ns.map .int), .int c, .int e] ++ List.replicate (9 - 3) .un) = .rt (dk ds) (.sh (.klst (ns.map .int)) :: .sh (.int c) :: .sh (.int e) :: .un :: .sh (.int seed) :: [s5, s6, s7, s8]) := by
    unfold den_deck
    rw [seq_nx (ρ1 := [.sh (.klst (ns.map .int)), .sh (.int c), .sh (.int e), .ow (.lst []), .un, .un, .un, .un, .un]) (by simp [argSl, List.replicate]),
      seq_nx (ρ1 := dkE (.klst (ns.map .int)) c e [] (7 + ns.length) .un .un .un .un) (by simp [dkE]), seq_nx h4, h5]
  simp only [F_deck, runD, h6, fin0]
  simp
end PL

set_option Elab.async false
set_option linter.all false
set_option maxRecDepth 100000
set_option maxHeartbeats 4000000
namespace PL
open PySem PySem.Spec L2
set_option autoImplicit false
/-! ### what _law_plain tells -/
mutual
def plainP : PV → PV
  | .non => .str "None"
  | .bl false => .str "False"
  | .bl true => .str "True"
  | .int i => .lst [.bl false, .int i]
  | .str x => .lst [.bl true, .str x]
  | .lst ps => .lst (.bl true :: plainPs ps)
  | .tup ps => .lst (.bl false :: plainPs ps)
  | .ktup ps => .lst (.bl false :: plainPs ps)
  | .klst _ => .str "another"
  | .dic _ _ _ => .str "another"
  | .fn _ => .str "another"
def plainPs : List PV → List PV
  | [] => []
  | p :: ps => plainP p :: plainPs ps
end
mutual
/-- of depth under n, of no great length -/
def okD : Nat → PV → Bool
  | 0, _ => false
  | n + 1, .lst ps => decide (ps.length ≤ 100000) && okDs n ps
  | n + 1, .tup ps => decide (ps.length ≤ 100000) && okDs n ps
  | n + 1, .ktup ps => decide (ps.length ≤ 100000) && okDs n ps
  | _ + 1, .str x => PyData.canLay0 (.str x)
  | _ + 1, .klst _ => false
  | _ + 1, .dic _ _ _ => false
  | _ + 1, .fn _ => false
  | _ + 1, _ => true
def okDs : Nat → List PV → Bool
  | _, [] => true
  | n, p :: ps => okD n p && okDs n ps
end
theorem okDs_iff {n : Nat} : ∀ {ps : List PV}, okDs n ps = true ↔ ∀ p ∈ ps, okD n p = true
  | [] => by simp [okDs]
  | p :: ps => by simp [okDs, okDs_iff (ps := ps)]
theorem plainPs_len : ∀ ps : List PV, (plainPs ps).length = ps.length
  | [] => rfl
  | p :: ps => by simp [plainPs, plainPs_len ps]
theorem plainPs_map : ∀ ps : List PV, plainPs ps = ps.map plainP
  | [] => rfl
  | p :: ps => by simp [plainPs, plainPs_map ps]
theorem lc_plain {n : Nat} {q : PV} (ih : ∀ p, okD n p = true → F_plain_ n [p] = .ok (plainP p) .non) : ∀ (ps : List PV), okDs n ps = true →
    lcLoop [1] (gName 1) bYes (dCall (F_plain_ n) (dCons (dVar 1) dNil)) ps [.sh q, .un] = some (plainPs ps, [.sh q, .un])
  | [], _ => rfl
  | p :: ps, h => by
    have h : okD n p = true ∧ okDs n ps = true := by simpa [okDs] using h
    unfold lcLoop
    simp [ih p h.1, noOw, Sl.isOw, wipeE, lc_plain ih ps h.2, plainPs]
theorem F_plain_eq : ∀ (n : Nat) (p : PV), okD n p = true → F_plain_ n [p] = .ok (plainP p) .non
  | 0, p, h => by simp [okD] at h
  | n + 1, p, h => by
    have ih := F_plain_eq n
    have seq : ∀ (ps : List PV) (q : PV) (b : Bool), seqOf q = some ps → ps.length ≤ 100000 → okDs n ps = true → gIsi2 "tuple" "list" q = some (.bl true) → gIsi "list" q = some (.bl b) → F_plain_ (n + 1) [q] = .ok (.lst (.bl b :: plainPs ps)) .non := by
      intro ps q b h1 h2 h3 h4 h5
      have h6 : ps.length ≤ 1000000 := by omega
      have h7 : 1 + ps.length ≤ sizeLine := by rw [sizeLine_eq]; omega
      have h8 : (1 : Nat) ≤ sizeLine := by rw [sizeLine_eq]; omega
      simp [F_plain_, runD, argSl, den_plain, List.replicate, fin0, h1, h4, h5, truth, lockE, Sl.lock, lc_plain ih ps h3, plainPs_len, h6, h7, h8, backE, List.range, List.range.loop, Sl.back, clean]
    cases p with
    | lst ps =>
      have h : ps.length ≤ 100000 ∧ okDs n ps = true := by simpa [okD] using h
      exact seq ps _ true rfl h.1 h.2 rfl rfl
    | tup ps =>
      have h : ps.length ≤ 100000 ∧ okDs n ps = true := by simpa [okD] using h
      exact seq ps _ false rfl h.1 h.2 rfl rfl
    | ktup ps =>
      have h : ps.length ≤ 100000 ∧ okDs n ps = true := by simpa [okD] using h
      exact seq ps _ false rfl h.1 h.2 rfl rfl
    | non => rfl
    | bl b => cases b <;> rfl
    | int i => rfl
    | str x => rfl
    | klst ps => simp [okD] at h
    | dic t ks vs => simp [okD] at h
    | fn a => simp [okD] at h
end PL

set_option Elab.async false
set_option linter.all false
set_option maxRecDepth 100000
set_option maxHeartbeats 4000000
namespace PL
open PySem PySem.Spec L2
set_option autoImplicit false
/-! ### slots lent and given back -/
section
variable (p q : PV)
@[simp] theorem lock_un : Sl.lock .un = .un := id rfl
@[simp] theorem lock_sh : Sl.lock (.sh p) = .sh p := id rfl
@[simp] theorem lock_ow : Sl.lock (.ow p) = .io p := id rfl
@[simp] theorem lock_io : Sl.lock (.io p) = .io p := id rfl
@[simp] theorem back_ow : Sl.back (.ow p) (.io q) = .ow q := id rfl
@[simp] theorem back_io : Sl.back (.io p) (.io q) = .io q := id rfl
@[simp] theorem back_sh : Sl.back (.sh p) (.sh q) = .sh q := id rfl
@[simp] theorem back_owsh : Sl.back (.ow p) (.sh q) = .sh q := id rfl
@[simp] theorem back_un : Sl.back .un .un = .un := id rfl
@[simp] theorem clean_un : clean .un = .un := id rfl
@[simp] theorem clean_sh : clean (.sh p) = .sh p := id rfl
@[simp] theorem isOw_un : Sl.isOw .un = false := id rfl
@[simp] theorem isOw_sh : Sl.isOw (.sh p) = false := id rfl
@[simp] theorem isOw_io : Sl.isOw (.io p) = false := id rfl
@[simp] theorem noOw_nil : noOw [] = true := id rfl
@[simp] theorem noOw_cons (s : Sl) (r : Env) : noOw (s :: r) = (!s.isOw && noOw r) := id rfl
end
def sl : Option PV → Sl
  | none => .un
  | some p => .sh p
@[simp] theorem sl_lock (o : Option PV) : Sl.lock (sl o) = sl o := by cases o <;> rfl
@[simp] theorem sl_back (o : Option PV) : Sl.back (sl o) (sl o) = sl o := by cases o <;> rfl
@[simp] theorem sl_ow (o : Option PV) : Sl.isOw (sl o) = false := by cases o <;> rfl
@[simp] theorem sl_clean (o : Option PV) : clean (sl o) = sl o := by cases o <;> rfl
/-! ### texts as lists of signs -/
def st (l : List Nat) : Str := ⟨l.toArray⟩
theorem st_cps (l : List Nat) : (st l).cps.toList = l := rfl
@[simp] theorem st_len (l : List Nat) : (st l).length = l.length := by show (l.toArray).size = _; simp
@[simp] theorem st_app (l m : List Nat) : st l ++ st m = st (l ++ m) := by show (⟨l.toArray ++ m.toArray⟩ : Str) = _; simp [st]
@[simp] theorem st_inj {l m : List Nat} : (st l = st m) = (l = m) := by
  refine propext ⟨fun h => ?_, fun h => by rw [h]⟩
  have := congrArg (fun s : Str => s.cps.toList) h
  simpa [st] using this
theorem st_of (x : Str) : x = st x.cps.toList := by obtain ⟨a⟩ := x; simp [st]
@[simp] theorem st_signs (l : List Nat) : signs (st l) = l.map fun c => .str (st [c]) := by simp [signs, st]
@[simp] theorem ap_slS (l : List Nat) (lo hi : Option Int) : gSl (.str (st l)) lo hi = if l.length ≤ sizeLine then some (.str (st (cutP l lo hi))) else none := by
  have e : cutS (st l) lo hi = st (cutP l lo hi) := by
    unfold cutS cutP
    rw [st_len]
    rfl
  show (if (st l).length ≤ sizeLine then some (PV.str (cutS (st l) lo hi)) else none) = _
  rw [st_len, e]
@[simp] theorem ap_slL (l : List PV) (lo hi : Option Int) : gSl (.lst l) lo hi = some (.lst (cutP l lo hi)) := rfl
@[simp] theorem ap_slLL (l : List PV) (lo hi : Option Int) : gSlL (.lst l) lo hi = some (.lst (cutP l lo hi)) := rfl
@[simp] theorem ap_ixSt (l : List Nat) (i : Int) : gIx (.str (st l)) (.int i) = if l.length ≤ sizeLine then (L2.atI l i).map fun c => .str (st [c]) else none := by
  rw [ap_ixS, st_len, st_cps]; rfl
theorem cutP_nat {α : Type} (l : List α) (a b : Nat) : cutP l (some (a : Int)) (some (b : Int)) = (l.take b).drop a := by
  unfold cutP
  rw [HT.sIx_nat, HT.sIx_nat, List.drop_take]
  by_cases h : a ≤ l.length
  · rw [Nat.min_eq_left h]
    by_cases h2 : b ≤ l.length
    · rw [Nat.min_eq_left h2]
    · have h3 : min b l.length = l.length := Nat.min_eq_right (by omega)
      rw [h3, List.take_of_length_le (by simp), List.take_of_length_le (by simp; omega)]
  · have h3 : min a l.length = l.length := Nat.min_eq_right (by omega)
    have h4 : l.drop a = [] := List.drop_of_length_le (by omega)
    rw [h3, h4, List.drop_of_length_le (Nat.le_refl _)]
    simp
theorem cutP_lo {α : Type} (l : List α) (a : Nat) : cutP l (some (a : Int)) none = l.drop a := by
  unfold cutP
  rw [HT.sIx_nat, HT.sIx_none]
  by_cases h : a ≤ l.length
  · rw [Nat.min_eq_left h, List.take_of_length_le (by simp)]
  · have h3 : min a l.length = l.length := Nat.min_eq_right (by omega)
    rw [h3, List.drop_of_length_le (Nat.le_refl _), List.drop_of_length_le (by omega)]; simp
theorem cutP_hi {α : Type} (l : List α) (b : Nat) : cutP l none (some (b : Int)) = l.take b := by
  unfold cutP
  rw [HT.sIx_nat, HT.sIx_none, List.drop_zero, Nat.sub_zero]
  by_cases h : b ≤ l.length
  · rw [Nat.min_eq_left h]
  · have h3 : min b l.length = l.length := Nat.min_eq_right (by omega)
    rw [h3, List.take_of_length_le (Nat.le_refl _), List.take_of_length_le (by omega)]
@[simp] theorem ap_oSome {da : Den} {ρ : Env} : oSome da ρ = (da ρ).bind fun p ρ1 => opt (p.int?.map some) ρ1 := id rfl
@[simp] theorem ap_int? (i : Int) : PV.int? (.int i) = some i := rfl
@[simp] theorem ap_dSl {g : PV → Option Int → Option Int → Option PV} {da : Den} {dl dh : DenO} {ρ : Env} : dSl g da dl dh ρ = (da ρ).bind fun p ρ1 => (dl ρ1).bind fun l ρ2 => (dh ρ2).bind fun h ρ3 => opt (g p l h) ρ3 := id rfl
@[simp] theorem ap_dSlv {g : PV → Option Int → Option Int → Option PV} {i : Nat} {dl dh : DenO} {ρ : Env} : dSlv g i dl dh ρ = match slot ρ i with
  | none => .bad
  | some _ => (dl ρ).bind fun l ρ2 => (dh ρ2).bind fun h ρ3 => match slot ρ3 i with
    | none => .bad
    | some p => opt (g p l h) ρ3 := id rfl
@[simp] theorem ap_dJoin {da db : Den} {ρ : Env} : dJoin da db ρ = (da ρ).bind fun p ρ1 => match p with
  | .str _ => (db ρ1).bind fun q ρ2 => opt (gJoin p q) ρ2
  | _ => .bad := id rfl
/-! ### equal texts, shaped values -/
def asc (l : List Nat) : Prop := ∀ c ∈ l, c < 128
theorem strOk_st {l : List Nat} (h : asc l) : PyData.strOk (st l) = true := by
  show (l.toArray).all (· < 0x110000) = true
  simp only [List.all_toArray, List.all_eq_true, decide_eq_true_eq]
  intro c hc
  have := h c hc
  omega
theorem shaped_st {l : List Nat} (h : asc l) : SeqAt.shaped (PV.toD (.str (st l))) = true := by
  have e : PyData.canLay0 (.str (st l)) = true := by simp only [PyData.canLay0]; exact strOk_st h
  simp only [SeqAt.shaped, PV.toD, e, Bool.true_and, decide_eq_true_eq, PyData.depth]
  exact Nat.zero_le _
theorem eqv_str (x y : Str) : PyData.eqv (.str x) (.str y) = decide (x = y) := by
  simp only [PyData.eqv]
  by_cases h : x = y <;> simp [h]
theorem ap_eqS {l m : List Nat} (h : asc l) (h' : asc m) : gEq (.str (st l)) (.str (st m)) = some (.bl (decide (l = m))) := by
  unfold gEq pvEq
  rw [shaped_st h, shaped_st h']
  simp only [PV.toD, eqv_str, st_inj, Bool.and_self, if_true]
theorem canAll_iff : ∀ {ps : List PV}, PyData.canLayAll0 (toDs ps) = true ↔ ∀ p ∈ ps, p.toD.canLay0 = true
  | [] => by simp [toDs, PyData.canLayAll0]
  | p :: ps => by simp [toDs, PyData.canLayAll0, canAll_iff (ps := ps)]
theorem depthAll_le {n : Nat} : ∀ {ps : List PV}, (∀ p ∈ ps, p.toD.depth ≤ n) → PyData.depthAll (toDs ps) ≤ n
  | [], _ => by simp [toDs, PyData.depthAll]
  | p :: ps, h => by
    simp only [toDs, PyData.depthAll]
    exact Nat.max_le.mpr ⟨h p List.mem_cons_self, depthAll_le fun q hq => h q (List.mem_cons_of_mem _ hq)⟩
theorem plain_lay : ∀ (n : Nat) (p : PV), okD n p = true → (plainP p).toD.canLay0 = true ∧ (plainP p).toD.depth ≤ n
  | 0, p, h => by simp [okD] at h
  | n + 1, p, h => by
    have ih := plain_lay n
    have seq : ∀ (b : Bool) (ps : List PV), okDs n ps = true → (PV.lst (.bl b :: plainPs ps)).toD.canLay0 = true ∧ (PV.lst (.bl b :: plainPs ps)).toD.depth ≤ n + 1 := by
      intro b ps h3
      have h3 := okDs_iff.mp h3
      refine ⟨?_, ?_⟩
      · simp only [PV.toD, PyData.canLay0]
        rw [canAll_iff]
        intro q hq
        rcases List.mem_cons.mp hq with e | hq
        · subst e; rfl
        · rw [plainPs_map] at hq
          obtain ⟨p, hp, e⟩ := List.mem_map.mp hq
          subst e
          exact (ih p (h3 p hp)).1
      · simp only [PV.toD, PyData.depth]
        refine Nat.succ_le_succ (depthAll_le ?_)
        intro q hq
        rcases List.mem_cons.mp hq with e | hq
        · subst e; simp [PV.toD, PyData.depth]
        · rw [plainPs_map] at hq
          obtain ⟨p, hp, e⟩ := List.mem_map.mp hq
          subst e
          exact (ih p (h3 p hp)).2
    cases p with
    | lst ps =>
      have h : ps.length ≤ 100000 ∧ okDs n ps = true := by simpa [okD] using h
      exact seq true ps h.2
    | tup ps =>
      have h : ps.length ≤ 100000 ∧ okDs n ps = true := by simpa [okD] using h
      exact seq false ps h.2
    | ktup ps =>
      have h : ps.length ≤ 100000 ∧ okDs n ps = true := by simpa [okD] using h
      exact seq false ps h.2
    | non => exact ⟨by decide +kernel, by simp [plainP, PV.toD, PyData.depth]⟩
    | bl b => cases b <;> exact ⟨by decide +kernel, by simp [plainP, PV.toD, PyData.depth]⟩
    | int i => exact ⟨by simp [plainP, PV.toD, toDs, PyData.canLay0, PyData.canLayAll0], by simp [plainP, PV.toD, toDs, PyData.depth, PyData.depthAll]⟩
    | str x =>
      have h : PyData.canLay0 (.str x) = true := by simpa [okD] using h
      exact ⟨by simp [plainP, PV.toD, toDs, PyData.canLay0, PyData.canLayAll0]; simpa [PyData.canLay0] using h, by simp [plainP, PV.toD, toDs, PyData.depth, PyData.depthAll]⟩
    | klst ps => simp [okD] at h
    | dic t ks vs => simp [okD] at h
    | fn a => simp [okD] at h
theorem plain_ne {n : Nat} {p : PV} (h : okD n p = true) (hn : n ≤ 64) : gNe (plainP p) (plainP p) = some (.bl false) := by
  obtain ⟨h1, h2⟩ := plain_lay n p h
  have h3 : SeqAt.shaped (plainP p).toD = true := by
    simp only [SeqAt.shaped, h1, Bool.true_and, decide_eq_true_eq]
    omega
  unfold gNe pvEq
  rw [h3, SeqAt.eqv_refl _ h1]
  rfl
theorem ap_plain {n : Nat} {p : PV} (h : okD n p = true) : F_plain_ n [p] = .ok (plainP p) .non := F_plain_eq n p h
end PL

set_option Elab.async false
set_option linter.all false
set_option maxRecDepth 100000
set_option maxHeartbeats 4000000
namespace PL.K71
open PySem PySem.Spec L2 PL
open PyProof.Rows hiding St
set_option autoImplicit false
def top (i : Nat) : Stmt := PySem.Challenge.pw_presswork_k71_whole_hyphens.main.body.getD i (.Pass ⟨0, 0, 0, 0⟩)

abbrev errs : List Str := [("InvalidItems" : Str), ("InvalidLength" : Str), ("InvalidText" : Str)]
abbrev c_DIGITS : PV := .str ("0123456789" : Str)
abbrev c_LETTERS : PV := .str ("abcdefghijklmnopqrstuvwxyz" : Str)
abbrev s__law_deck : Stmt := top 14
abbrev s__law_take : Stmt := top 15
abbrev s__law_word : Stmt := top 17
abbrev s__law_values : Stmt := top 19
abbrev s_parts_of : Stmt := top 8
abbrev s_check_word : Stmt := top 9
abbrev s_values_in : Stmt := top 10
abbrev s_hyphens : Stmt := top 11
abbrev s_word_items : Stmt := top 12
abbrev s__law_refusal : Stmt := top 20
abbrev s__law_pattern : Stmt := top 18
abbrev s__law_plain : Stmt := top 16
abbrev s_law : Stmt := top 21
abbrev F__law_deck := F_deck
abbrev F__law_take := F_take
def E__law_word_1 : Den :=
  (d2 gIx (dC (.str ("abc" : Str))) (dCallIo F__law_take 0 (dCons (dC (.int 3)) dNil)))
def den__law_word : DenS :=
  (sRet (dJoin (dC (.str ("" : Str))) (dLc ([(("turn" : Str), 2)].map (·.2)) (iR1 (dCons (dAdd (dC (.int 1)) (dCallIo F__law_take 0 (dCons (dVar 1) dNil))) dNil)) (gName 2) bYes E__law_word_1)))
def F__law_word : List PV → FR := runD true false 2 3 den__law_word
def B__law_values_3 : DenS :=
  (sSub gSetL 3 (dAdd (dVar 7) (dVar 8)) (dN gMax2 (dCons (d2l gIx 3 (dAdd (dVar 7) (dVar 8))) (dCons (d2 gIx (dVar 6) (dVar 8)) dNil))))
def B__law_values_2 : DenS :=
  (sIf (bVal (d2 gEq (dSl gSl (dVar 2) (oSome (dVar 7)) (oSome (dAdd (dVar 7) (dN gLenN (dCons (dVar 5) dNil))))) (dVar 5))) (sFor (iR1 (dCons (dN gLenN (dCons (dVar 6) dNil)) dNil)) (gName 8) B__law_values_3) sNx)
def B__law_values_1 : DenS :=
  (sFor (iR1 (dCons (dN gLenN (dCons (dVar 2) dNil)) dNil)) (gName 7) B__law_values_2)
def den__law_values : DenS :=
  (sSeq (sSet 2 (dAdd (dAdd (dC (.str ("." : Str))) (dVar 0)) (dC (.str ("." : Str)))))
    (sSeq (sSetF 3 (d2 gRep (dLst (dCons (dC (.int 0)) dNil)) (dAdd (dN gLenN (dCons (dVar 2) dNil)) (dC (.int 1)))))
    (sSeq (sFor (iSeq (dVar 1)) (gTup (gsCons (gName 4) (gsCons (gName 5) (gsCons (gName 6) gsNil)))) B__law_values_1)
    (sRet (dSlv gSlL 3 (oSome (dC (.int 2))) (oSome (dSub (dN gLenN (dCons (dVar 2) dNil)) (dC (.int 1)))))))))
def F__law_values : List PV → FR := runD false false 2 9 den__law_values
def B_parts_of_1 : DenS :=
  (sSeq (sIf (bVal (d2 (gIn false) (dVar 4) (dC c_DIGITS))) (sSeq (sIf (bAnd (bTruV 3) (bVal (d2 (gIn false) (dVar 3) (dC c_DIGITS)))) (sRet (dC .non)) sNx)
    (sSub gSetL 2 (dNeg (dC (.int 1))) (dN gInt (dCons (dVar 4) dNil)))) (sSeq (sAug 1 gAugAdd (dVar 4))
    (sExpr (dMut "list" gAppend 2 (dCons (dC (.int 0)) dNil)))))
    (sSet 3 (dVar 4)))
def E_parts_of_2 : Den :=
  (dVar 4)
def T_parts_of_2 : DenB :=
  (bVal (d2 (gIn true) (dVar 4) (dC c_LETTERS)))
def den_parts_of : DenS :=
  (sSeq (sSet 1 (dC (.str ("" : Str))))
    (sSeq (sSetF 2 (dLst (dCons (dC (.int 0)) dNil)))
    (sSeq (sSet 3 (dC (.str ("" : Str))))
    (sSeq (sFor (iSeq (dVar 0)) (gName 4) B_parts_of_1)
    (sSeq (sSet 5 (dIf (bVal (d2 gEq (dSl gSl (dVar 1) oNone (oSome (dC (.int 1)))) (dC (.str ("." : Str))))) (dSl gSl (dVar 1) (oSome (dC (.int 1))) oNone) (dVar 1)))
    (sSeq (sSet 5 (dIf (bVal (d2 gEq (dSl gSl (dVar 5) (oSome (dNeg (dC (.int 1)))) oNone) (dC (.str ("." : Str))))) (dSl gSl (dVar 5) oNone (oSome (dNeg (dC (.int 1))))) (dVar 5)))
    (sSeq (sIf (bOr (bNot (bTruV 5)) (bTru (dLc ([(("sign" : Str), 4)].map (·.2)) (iSeq (dVar 5)) (gName 4) T_parts_of_2 E_parts_of_2))) (sRet (dC .non)) sNx)
    (sRet (dTup (dCons (dVar 1) (dCons (dVar 2) dNil)))))))))))
def F_parts_of : List PV → FR := runD false false 1 6 den_parts_of
def E_check_word_1 : Den :=
  (dCall F_parts_of (dCons (dVar 3) dNil))
def E_check_word_2 : Den :=
  (dVar 4)
def T_check_word_2 : DenB :=
  (bVal (d2 (gIn true) (dVar 4) (dC c_LETTERS)))
def den_check_word : DenS :=
  (sSeq (sSet 2 (dLc ([(("pattern" : Str), 3)].map (·.2)) (iSeq (dVar 1)) (gName 3) bYes E_check_word_1))
    (sSeq (sIf (bVal (d2 (gIn false) (dC .non) (dVar 2))) (sRaise ("InvalidText" : Str) "what" (dC (.str ("pattern" : Str)))) sNx)
    (sSeq (sIf (bOr (bNot (bTruV 0)) (bTru (dLc ([(("sign" : Str), 4)].map (·.2)) (iSeq (dVar 0)) (gName 4) T_check_word_2 E_check_word_2))) (sRaise ("InvalidText" : Str) "what" (dC (.str ("word" : Str)))) sNx)
    (sRet (dVar 2)))))
def F_check_word : List PV → FR := runD false false 2 5 den_check_word
def B_values_in_3 : DenS :=
  (sSub gSetL 4 (dAdd (dVar 7) (dVar 8)) (dN gMax2 (dCons (d2l gIx 4 (dAdd (dVar 7) (dVar 8))) (dCons (d2 gIx (dVar 6) (dVar 8)) dNil))))
def B_values_in_2 : DenS :=
  (sIf (bVal (d2 gEq (dSl gSl (dVar 3) (oSome (dVar 7)) (oSome (dAdd (dVar 7) (dN gLenN (dCons (dVar 5) dNil))))) (dVar 5))) (sFor (iR1 (dCons (dN gLenN (dCons (dVar 6) dNil)) dNil)) (gName 8) B_values_in_3) sNx)
def B_values_in_1 : DenS :=
  (sFor (iR1 (dCons (dAdd (dSub (dN gLenN (dCons (dVar 3) dNil)) (dN gLenN (dCons (dVar 5) dNil))) (dC (.int 1))) dNil)) (gName 7) B_values_in_2)
def den_values_in : DenS :=
  (sSeq (sSet 2 (dCall F_check_word (dCons (dVar 0) (dCons (dVar 1) dNil))))
    (sSeq (sSet 3 (dAdd (dAdd (dC (.str ("." : Str))) (dVar 0)) (dC (.str ("." : Str)))))
    (sSeq (sSetF 4 (d2 gRep (dLst (dCons (dC (.int 0)) dNil)) (dAdd (dN gLenN (dCons (dVar 3) dNil)) (dC (.int 1)))))
    (sSeq (sFor (iSeq (dVar 2)) (gTup (gsCons (gName 5) (gsCons (gName 6) gsNil))) B_values_in_1)
    (sRet (dSlv gSlL 4 (oSome (dC (.int 2))) (oSome (dAdd (dN gLenN (dCons (dVar 0) dNil)) (dC (.int 1))))))))))
def F_values_in : List PV → FR := runD false false 2 9 den_values_in
def E_hyphens_1 : Den :=
  (dAdd (dVar 3) (dC (.int 1)))
def T_hyphens_1 : DenB :=
  (bAnd (bVal (d2 gEq (dMod (d2 gIx (dVar 2) (dVar 3)) (dC (.int 2))) (dC (.int 1)))) (bVal (dChain gLe gLe (dC (.int 2)) (dAdd (dVar 3) (dC (.int 1))) (dSub (dN gLenN (dCons (dVar 0) dNil)) (dC (.int 2))))))
def den_hyphens : DenS :=
  (sSeq (sSet 2 (dCall F_values_in (dCons (dVar 0) (dCons (dVar 1) dNil))))
    (sRet (dLc ([(("at" : Str), 3)].map (·.2)) (iR1 (dCons (dN gLenN (dCons (dVar 2) dNil)) dNil)) (gName 3) T_hyphens_1 E_hyphens_1)))
def F_hyphens : List PV → FR := runD false false 2 4 den_hyphens
def E_word_items_1 : Den :=
  (dVar 8)
def T_word_items_1 : DenB :=
  (bVal (d2 gLt (dGet2v 2 (dVar 8) (dNeg (dC (.int 1)))) (dC (.int 0))))
def E_word_items_3 : Den :=
  (d2l gDG 2 (dVar 8))
def B_word_items_2 : DenS :=
  (sSeq (sSet 7 (dSl gSl (dVar 0) (oSome (d2 gIx (dVar 4) (dVar 6))) (oSome (d2 gIx (dVar 4) (dAdd (dVar 6) (dC (.int 1)))))))
    (sSeq (sIf (bTruV 5) (sExpr (dMut "list" gAppend 5 (dCons (dTup (dCons (dC (.str ("penalty" : Str))) (dCons (d2l gDG 2 (dC (.str ("-" : Str)))) (dCons (dVar 3) (dCons (dC (.bl true)) dNil))))) dNil))) sNx)
    (sExpr (dMut "list" gAppend 5 (dCons (dTup (dCons (dC (.str ("box" : Str))) (dCons (dN gSumN (dCons (dLc ([(("sign" : Str), 8)].map (·.2)) (iSeq (dVar 7)) (gName 8) bYes E_word_items_3) dNil)) (dCons (dVar 7) dNil)))) dNil)))))
def den_word_items : DenS :=
  (sSeq (sSet 4 (dAdd (dAdd (dLst (dCons (dC (.int 0)) dNil)) (dCall F_hyphens (dCons (dVar 0) (dCons (dVar 1) dNil)))) (dLst (dCons (dN gLenN (dCons (dVar 0) dNil)) dNil))))
    (sSeq (sIf (bTru (dLc ([(("sign" : Str), 8)].map (·.2)) (iSeq (dAdd (dVar 0) (dC (.str ("-" : Str))))) (gName 8) T_word_items_1 E_word_items_1)) (sRaise ("InvalidLength" : Str) "what" (dC (.str ("widths" : Str)))) sNx)
    (sSeq (sIf (bNot (bVal (dChain gLe gLe (dNeg (dC (.int 9999))) (dVar 3) (dC (.int 9999))))) (sRaise ("InvalidItems" : Str) "what" (dC (.str ("cost" : Str)))) sNx)
    (sSeq (sSetF 5 (dLst dNil))
    (sSeq (sFor (iR1 (dCons (dSub (dN gLenN (dCons (dVar 4) dNil)) (dC (.int 1))) dNil)) (gName 6) B_word_items_2)
    (sRet (dVar 5)))))))
def F_word_items : List PV → FR := runD false false 4 9 den_word_items
def den__law_refusal : DenS :=
  (sSeq (sTry [("InvalidText" : Str), ("InvalidLength" : Str), ("InvalidItems" : Str)] "what" 5 (sIf (bVal (d2 gEq (dVar 0) (dC (.int 0)))) (sExpr (dCall F_values_in (dCons (dVar 1) (dCons (dVar 2) dNil)))) (sIf (bVal (d2 gEq (dVar 0) (dC (.int 1)))) (sExpr (dCall F_hyphens (dCons (dVar 1) (dCons (dVar 2) dNil)))) (sExpr (dCall F_word_items (dCons (dVar 1) (dCons (dVar 2) (dCons (dVar 3) (dCons (dVar 4) dNil)))))))))
    (sRet (dC .non)))
def F__law_refusal : List PV → FR := runD false false 5 6 den__law_refusal
def E__law_pattern_1 : Den :=
  (dMul (dCallIo F__law_take 0 (dCons (dC (.int 4)) dNil)) (dCallIo F__law_take 0 (dCons (dC (.int 2)) dNil)))
def B__law_pattern_2 : DenS :=
  (sSeq (sIf (bOr (bVal (d2 gGt (d2 gIx (dVar 2) (dVar 4)) (dC (.int 0)))) (bVal (d2 gEq (dCallIo F__law_take 0 (dCons (dC (.int 6)) dNil)) (dC (.int 0))))) (sSet 3 (dAdd (dVar 3) (d2 gIx (dC (.str ("0123456789" : Str))) (d2 gIx (dVar 2) (dVar 4))))) sNx)
    (sIf (bVal (d2 gLt (dVar 4) (dN gLenN (dCons (dVar 1) dNil)))) (sSet 3 (dAdd (dVar 3) (d2 gIx (dVar 1) (dVar 4)))) sNx))
def den__law_pattern : DenS :=
  (sSeq (sSet 1 (dCallIo F__law_word 0 (dCons (dC (.int 3)) dNil)))
    (sSeq (sIf (bVal (d2 gEq (dCallIo F__law_take 0 (dCons (dC (.int 5)) dNil)) (dC (.int 0)))) (sSet 1 (dAdd (dC (.str ("." : Str))) (dVar 1))) sNx)
    (sSeq (sIf (bVal (d2 gEq (dCallIo F__law_take 0 (dCons (dC (.int 5)) dNil)) (dC (.int 0)))) (sSet 1 (dAdd (dVar 1) (dC (.str ("." : Str))))) sNx)
    (sSeq (sSet 2 (dLc ([(("at" : Str), 4)].map (·.2)) (iR1 (dCons (dAdd (dN gLenN (dCons (dVar 1) dNil)) (dC (.int 1))) dNil)) (gName 4) bYes E__law_pattern_1))
    (sSeq (sSet 3 (dC (.str ("" : Str))))
    (sSeq (sFor (iR1 (dCons (dN gLenN (dCons (dVar 2) dNil)) dNil)) (gName 4) B__law_pattern_2)
    (sRet (dTup (dCons (dVar 3) (dCons (dVar 1) (dCons (dVar 2) dNil)))))))))))
def F__law_pattern : List PV → FR := runD true false 1 5 den__law_pattern
abbrev F__law_plain_ := F_plain_
abbrev F__law_plain : List PV → FR := F__law_plain_ 5
def E_law_2 : Den :=
  (dCallIo F__law_pattern 1 dNil)
def E_law_3 : Den :=
  (d2 gIx (dVar 19) (dC (.int 0)))
def E_law_4 : Den :=
  (dVar 12)
def T_law_4 : DenB :=
  (bVal (d2 gEq (dMod (dN gInt (dCons (d2 gIx (dVar 6) (dSub (dVar 12) (dC (.int 1)))) dNil)) (dC (.int 2))) (dC (.int 1))))
def E_law_6 : Den :=
  (d2l gDG 8 (dVar 20))
def B_law_5 : DenS :=
  (sSeq (sSet 13 (dSl gSl (dVar 3) (oSome (d2 gIx (dVar 10) (dVar 12))) (oSome (d2 gIx (dVar 10) (dAdd (dVar 12) (dC (.int 1)))))))
    (sSeq (sIf (bVal (d2 gGt (dVar 12) (dC (.int 0)))) (sExpr (dMut "list" gAppend 11 (dCons (dTup (dCons (dC (.str ("penalty" : Str))) (dCons (d2l gDG 8 (dC (.str ("-" : Str)))) (dCons (dVar 9) (dCons (dC (.bl true)) dNil))))) dNil))) sNx)
    (sExpr (dMut "list" gAppend 11 (dCons (dTup (dCons (dC (.str ("box" : Str))) (dCons (dN gSumN (dCons (dLc ([(("sign" : Str), 20)].map (·.2)) (iSeq (dVar 13)) (gName 20) bYes E_law_6) dNil)) (dCons (dVar 13) dNil)))) dNil)))))
def B_law_1 : DenS :=
  (sSeq (sSet 3 (dCallIo F__law_word 1 (dCons (dC (.int 9)) dNil)))
    (sSeq (sSet 4 (dLc ([(("again" : Str), 18)].map (·.2)) (iR1 (dCons (dCallIo F__law_take 1 (dCons (dC (.int 9)) dNil)) dNil)) (gName 18) bYes E_law_2))
    (sSeq (sSet 5 (dLc ([(("pattern" : Str), 19)].map (·.2)) (iSeq (dVar 4)) (gName 19) bYes E_law_3))
    (sSeq (sSet 6 (dCall F__law_values (dCons (dVar 3) (dCons (dVar 4) dNil))))
    (sSeq (sIf (bVal (d2 gNe (dCall F__law_plain (dCons (dCall F_values_in (dCons (dVar 3) (dCons (dN gListOf (dCons (dVar 5) dNil)) dNil))) dNil)) (dCall F__law_plain (dCons (dVar 6) dNil)))) (sRet (dC (.bl false))) sNx)
    (sSeq (sSet 7 (dLc ([(("at" : Str), 12)].map (·.2)) (iR2 (dCons (dC (.int 2)) (dCons (dSub (dN gLenN (dCons (dVar 3) dNil)) (dC (.int 1))) dNil))) (gName 12) T_law_4 E_law_4))
    (sSeq (sIf (bVal (d2 gNe (dCall F__law_plain (dCons (dCall F_hyphens (dCons (dVar 3) (dCons (dVar 5) dNil))) dNil)) (dCall F__law_plain (dCons (dVar 7) dNil)))) (sRet (dC (.bl false))) sNx)
    (sSeq (sSet 8 (dDisp [((dC (.str ("a" : Str))), (dCallIo F__law_take 1 (dCons (dC (.int 9)) dNil))), ((dC (.str ("b" : Str))), (dC (.int 4))), ((dC (.str ("c" : Str))), (dC (.int 5))), ((dC (.str ("-" : Str))), (dCallIo F__law_take 1 (dCons (dC (.int 3)) dNil)))]))
    (sSeq (sSet 9 (dSub (dCallIo F__law_take 1 (dCons (dC (.int 200)) dNil)) (dC (.int 100))))
    (sSeq (sSet 10 (dAdd (dAdd (dLst (dCons (dC (.int 0)) dNil)) (dVar 7)) (dLst (dCons (dN gLenN (dCons (dVar 3) dNil)) dNil))))
    (sSeq (sSetF 11 (dLst dNil))
    (sSeq (sFor (iR1 (dCons (dSub (dN gLenN (dCons (dVar 10) dNil)) (dC (.int 1))) dNil)) (gName 12) B_law_5)
    (sIf (bVal (d2 gNe (dCall F__law_plain (dCons (dCall F_word_items (dCons (dVar 3) (dCons (dVar 5) (dCons (dVar 8) (dCons (dVar 9) dNil))))) dNil)) (dCall F__law_plain (dCons (dVar 11) dNil)))) (sRet (dC (.bl false))) sNx)))))))))))))
def den_law : DenS :=
  (sSeq (sSetF 1 (dCall F__law_deck (dCons (dVar 0) (dCons (dC (.int 90)) (dCons (dC (.int 14)) dNil)))))
    (sSeq (sFor (iR1 (dCons (dC (.int 2)) dNil)) (gName 2) B_law_1)
    (sSeq (sSet 14 (dCallIo F__law_take 1 (dCons (dC (.int 3)) dNil)))
    (sSeq (sSet 15 (d2 gIx (dLst (dCons (dC (.str ("" : Str))) (dCons (dC (.str ("." : Str))) (dCons (dC (.str ("12" : Str))) (dCons (dC (.str ("a11b" : Str))) (dCons (dC (.str ("a.b" : Str))) (dCons (dC (.str ("A1" : Str))) (dCons (dC (.str ("..a" : Str))) (dCons (dC (.str ("a-b" : Str))) dNil))))))))) (dCallIo F__law_take 1 (dCons (dC (.int 8)) dNil))))
    (sSeq (sSet 16 (d2 gIx (dLst (dCons (dC (.str ("" : Str))) (dCons (dC (.str ("aB" : Str))) (dCons (dC (.str ("a." : Str))) dNil)))) (dCallIo F__law_take 1 (dCons (dC (.int 3)) dNil))))
    (sSeq (sSet 17 (dLst (dCons (dCall F__law_refusal (dCons (dVar 14) (dCons (dC (.str ("A" : Str))) (dCons (dLst (dCons (dC (.str ("a1b" : Str))) (dCons (dVar 15) dNil))) (dCons (dC (.dic false [] [])) (dCons (dC (.int 0)) dNil)))))) (dCons (dCall F__law_refusal (dCons (dVar 14) (dCons (dVar 16) (dCons (dLst dNil) (dCons (dC (.dic false [] [])) (dCons (dC (.int 0)) dNil)))))) dNil))))
    (sSeq (sSet 17 (dAdd (dVar 17) (dLst (dCons (dCall F__law_refusal (dCons (dC (.int 2)) (dCons (dC (.str ("ab" : Str))) (dCons (dLst dNil) (dCons (dDisp [((dC (.str ("a" : Str))), (dC (.int 1))), ((dC (.str ("-" : Str))), (dC (.int 1)))]) (dCons (dC (.int 99999)) dNil)))))) (dCons (dCall F__law_refusal (dCons (dC (.int 2)) (dCons (dC (.str ("a" : Str))) (dCons (dLst dNil) (dCons (dDisp [((dC (.str ("a" : Str))), (dC (.int 1))), ((dC (.str ("-" : Str))), (dNeg (dC (.int 1))))]) (dCons (dC (.int 0)) dNil)))))) dNil)))))
    (sRet (d2 gEq (dAdd (dVar 17) (dLst (dCons (dCall F__law_refusal (dCons (dC (.int 2)) (dCons (dC (.str ("a" : Str))) (dCons (dLst dNil) (dCons (dDisp [((dC (.str ("a" : Str))), (dC (.int 1))), ((dC (.str ("-" : Str))), (dC (.int 1)))]) (dCons (dC (.int 10000)) dNil)))))) dNil))) (dLst (dCons (dC (.str ("pattern" : Str))) (dCons (dC (.str ("word" : Str))) (dCons (dC (.str ("widths" : Str))) (dCons (dC (.str ("widths" : Str))) (dCons (dC (.str ("cost" : Str))) dNil)))))))))))))))
def F_law : List PV → FR := runD false false 1 21 den_law
section
variable {P : Program} {w : World} {K : PySem.W.Frag} {mg : Str → Option Value} {base : Heap}
abbrev i_InvalidItems : Stmt := inClass (top 3) 0
theorem sc_i_InvalidItems : FnScope [("self" : Str), ("what" : Str)] [("self" : Str), ("what" : Str)] (defScope i_InvalidItems) := ⟨rfl, rfl, rfl, by decide +kernel, rfl, by decide +kernel, by decide +kernel⟩
theorem E_InvalidItems {fd : FuncData} (E : EcK K ("InvalidItems" : Str) "what") (hm : mg ("InvalidItems" : Str) = some (.ref (He.ga K ("InvalidItems" : Str)))) (T : PeK K "PressError") (hp : mg "PressError" = some (.ref (He.ga K "PressError"))) (F : FnP K "__init__" "InvalidItems.__init__" i_InvalidItems (He.ma K (He.ga K ("InvalidItems" : Str)) "__init__") fd) : Ec P w K mg base ("InvalidItems" : Str) "what" :=
  ec_ok (txt := ("invalid items: " : Str)) E hm F sc_i_InvalidItems (fun _ _ _ _ _ _ us hl => match us, hl with | [_, _], _ => rfl) (by decide) fun cdv A outer s H E =>
    pss_cons (ps_expr (pe_baseinit T rfl hp (pa_cons (pv 0) (pa_cons (pe_op op_add_str pe_str (pv 1)) pa_nil)))) (pss_one (ps_ost (pv 0) (pv 1)))
abbrev i_InvalidLength : Stmt := inClass (top 2) 0
theorem sc_i_InvalidLength : FnScope [("self" : Str), ("what" : Str)] [("self" : Str), ("what" : Str)] (defScope i_InvalidLength) := ⟨rfl, rfl, rfl, by decide +kernel, rfl, by decide +kernel, by decide +kernel⟩
theorem E_InvalidLength {fd : FuncData} (E : EcK K ("InvalidLength" : Str) "what") (hm : mg ("InvalidLength" : Str) = some (.ref (He.ga K ("InvalidLength" : Str)))) (T : PeK K "PressError") (hp : mg "PressError" = some (.ref (He.ga K "PressError"))) (F : FnP K "__init__" "InvalidLength.__init__" i_InvalidLength (He.ma K (He.ga K ("InvalidLength" : Str)) "__init__") fd) : Ec P w K mg base ("InvalidLength" : Str) "what" :=
  ec_ok (txt := ("invalid length: " : Str)) E hm F sc_i_InvalidLength (fun _ _ _ _ _ _ us hl => match us, hl with | [_, _], _ => rfl) (by decide) fun cdv A outer s H E =>
    pss_cons (ps_expr (pe_baseinit T rfl hp (pa_cons (pv 0) (pa_cons (pe_op op_add_str pe_str (pv 1)) pa_nil)))) (pss_one (ps_ost (pv 0) (pv 1)))
abbrev i_InvalidText : Stmt := inClass (top 4) 0
theorem sc_i_InvalidText : FnScope [("self" : Str), ("what" : Str)] [("self" : Str), ("what" : Str)] (defScope i_InvalidText) := ⟨rfl, rfl, rfl, by decide +kernel, rfl, by decide +kernel, by decide +kernel⟩
theorem E_InvalidText {fd : FuncData} (E : EcK K ("InvalidText" : Str) "what") (hm : mg ("InvalidText" : Str) = some (.ref (He.ga K ("InvalidText" : Str)))) (T : PeK K "PressError") (hp : mg "PressError" = some (.ref (He.ga K "PressError"))) (F : FnP K "__init__" "InvalidText.__init__" i_InvalidText (He.ma K (He.ga K ("InvalidText" : Str)) "__init__") fd) : Ec P w K mg base ("InvalidText" : Str) "what" :=
  ec_ok (txt := ("invalid text: " : Str)) E hm F sc_i_InvalidText (fun _ _ _ _ _ _ us hl => match us, hl with | [_, _], _ => rfl) (by decide) fun cdv A outer s H E =>
    pss_cons (ps_expr (pe_baseinit T rfl hp (pa_cons (pv 0) (pa_cons (pe_op op_add_str pe_str (pv 1)) pa_nil)))) (pss_one (ps_ost (pv 0) (pv 1)))
theorem sc__law_deck : FnScope [("script" : Str), ("cells" : Str), ("each" : Str), ("deck" : Str), ("seed" : Str), ("k" : Str), ("cell" : Str), ("rest" : Str), ("at" : Str)] [("script" : Str), ("cells" : Str), ("each" : Str)] (defScope s__law_deck) := ⟨rfl, rfl, rfl, by decide +kernel, rfl, by decide +kernel, by decide +kernel⟩
theorem G__law_deck {f : Addr} {fd : FuncData} (B : Bi mg) (F : FnP K ("_law_deck" : Str) ("_law_deck" : Str) s__law_deck f fd) (hm : mg ("_law_deck" : Str) = some (.ref f)) : Fd P w K mg base ("_law_deck" : Str) 1 false true 3 F__law_deck := by
  exact fd_okD (k := 0) F hm sc__law_deck (fun _ _ _ _ _ _ us hl => match us, hl with | [_, _, _], _ => rfl) (by decide) fun cdv A outer s H E c po =>
    (dss_cons (ds_setF c 3 (df_lst da_nil))
    (dss_cons (ds_set c 4 (de_add de_int (de_len B (da_cons (de_var 0) da_nil))))
    (dss_cons (ds_for po c (di_r1 B (da_cons (de_var 1) da_nil)) (dg_name c 5) (dss_cons (ds_set c 6 de_int)
    (dss_cons (ds_if (dt_cmp cr_lt (de_var 5) (de_len B (da_cons (de_var 0) da_nil))) (dss_one (ds_set c 6 (de_ix (de_var 0) (de_var 5)))) dss_nil)
    (dss_cons (ds_set c 7 (de_abs B (da_cons (de_var 6) da_nil)))
    (dss_one (ds_if (dt_cmp cr_ge (de_var 7) (de_pow de_int de_int)) (dss_one (ds_for po c (di_r1 B (da_cons (de_var 2) da_nil)) (dg_name c 8) (dss_cons (ds_expr (de_append 3 (pv 3) (da_cons (de_mod (de_toint B (da_cons (de_var 7) da_nil)) de_int) da_nil)))
    (dss_one (ds_set c 7 (de_fdiv (de_var 7) de_int)))))) (dss_cons (ds_set c 4 (de_mod (de_toint B (da_cons (de_add (de_add (de_add (de_mul (de_var 4) de_int) (de_mul de_int (de_var 7))) (de_toint B (da_cons (de_cmp cr_lt (de_var 6) de_int) da_nil))) (de_var 5)) da_nil)) de_int))
    (dss_one (ds_for po c (di_r1 B (da_cons (de_var 2) da_nil)) (dg_name c 8) (dss_cons (ds_set c 4 (de_mod (de_toint B (da_cons (de_add (de_add (de_mul (de_var 4) de_int) (de_var 8)) de_int) da_nil)) de_int))
    (dss_one (ds_expr (de_append 3 (pv 3) (da_cons (de_mod (de_toint B (da_cons (de_fdiv (de_var 4) de_int) da_nil)) de_int) da_nil))))))))))))))
    (dss_cons (ds_expr (de_reverse 3 (pv 3)))
    (dss_one (ds_retO 3 (pv 3)))))))
theorem sc__law_take : FnScope [("deck" : Str), ("many" : Str)] [("deck" : Str), ("many" : Str)] (defScope s__law_take) := ⟨rfl, rfl, rfl, by decide +kernel, rfl, by decide +kernel, by decide +kernel⟩
theorem G__law_take {f : Addr} {fd : FuncData} (B : Bi mg) (F : FnP K ("_law_take" : Str) ("_law_take" : Str) s__law_take f fd) (hm : mg ("_law_take" : Str) = some (.ref f)) : Fd P w K mg base ("_law_take" : Str) 1 true false 2 F__law_take := by
  exact fd_okD (k := 0) F hm sc__law_take (fun _ _ _ _ _ _ us hl => match us, hl with | [_, _], _ => rfl) (by decide) fun cdv A outer s H E c po =>
    (dss_cons (ds_if (dt_cmp (cr_eq c) (de_lenv B 0 (pv 0)) de_int) (dss_one (ds_ret de_int)) dss_nil)
    (dss_one (ds_ret (de_mod (de_toint B (da_cons (de_pop 0 (pv 0)) da_nil)) (de_var 1)))))
theorem sc__law_word : FnScope [("deck" : Str), ("most" : Str), ("turn" : Str)] [("deck" : Str), ("most" : Str)] (defScope s__law_word) := ⟨rfl, rfl, rfl, by decide +kernel, rfl, by decide +kernel, by decide +kernel⟩
theorem G__law_word {f : Addr} {fd : FuncData} (B : Bi mg) (G__law_take : Fd P w K mg base ("_law_take" : Str) 1 true false 2 F__law_take) (F : FnP K ("_law_word" : Str) ("_law_word" : Str) s__law_word f fd) (hm : mg ("_law_word" : Str) = some (.ref f)) : Fd P w K mg base ("_law_word" : Str) 2 true false 2 F__law_word := by
  exact fd_okD (k := 1) F hm sc__law_word (fun _ _ _ _ _ _ us hl => match us, hl with | [_, _], _ => rfl) (by decide) fun cdv A outer s H E c po =>
    (dss_one (ds_ret (de_join de_str (DF.sh (df_lc [(("turn" : Str), 2)] c (di_r1 B (da_cons (de_add de_int (de_callIo G__law_take c 0 (pv 0) (da_cons (de_var 1) da_nil))) da_nil)) (lg_name 2) (fun _ _ _ _ _ => (dg_name c.blk 2)) (fun _ _ _ _ _ => dts_nil) (fun _ _ _ _ _ => (de_ix de_str (de_callIo G__law_take c.blk 0 (pv 0) (da_cons de_int da_nil)))) (ok := blkOk_by (N := [("deck" : Str), ("most" : Str), ("turn" : Str)]) (sc := defScope s__law_word) (by decide +kernel)))))))
theorem sc__law_values : FnScope [("word" : Str), ("patterns" : Str), ("whole" : Str), ("values" : Str), ("text" : Str), ("signs" : Str), ("digits" : Str), ("start" : Str), ("at" : Str)] [("word" : Str), ("patterns" : Str)] (defScope s__law_values) := ⟨rfl, rfl, rfl, by decide +kernel, rfl, by decide +kernel, by decide +kernel⟩
theorem G__law_values {f : Addr} {fd : FuncData} (B : Bi mg) (F : FnP K ("_law_values" : Str) ("_law_values" : Str) s__law_values f fd) (hm : mg ("_law_values" : Str) = some (.ref f)) : Fd P w K mg base ("_law_values" : Str) 1 false false 2 F__law_values := by
  exact fd_okD (k := 0) F hm sc__law_values (fun _ _ _ _ _ _ us hl => match us, hl with | [_, _], _ => rfl) (by decide) fun cdv A outer s H E c po =>
    (dss_cons (ds_set c 2 (de_add (de_add de_str (de_var 0)) de_str))
    (dss_cons (ds_setF c 3 (df_rep (DF.sh (df_lst (da_cons de_int da_nil))) (de_add (de_len B (da_cons (de_var 2) da_nil)) de_int)))
    (dss_cons (ds_for po c (di_seq (de_var 1)) (dg_tup c (dgs_cons (dg_name c 4) (dgs_cons (dg_name c 5) (dgs_cons (dg_name c 6) dgs_nil)))) (dss_one (ds_for po c (di_r1 B (da_cons (de_len B (da_cons (de_var 2) da_nil)) da_nil)) (dg_name c 7) (dss_one (ds_if (dt_cmp (cr_eq c) (de_sl (de_var 2) (do_some (de_var 7)) (do_some (de_add (de_var 7) (de_len B (da_cons (de_var 5) da_nil))))) (de_var 5)) (dss_one (ds_for po c (di_r1 B (da_cons (de_len B (da_cons (de_var 6) da_nil)) da_nil)) (dg_name c 8) (dss_one (ds_sub 3 (pv 3) (de_add (de_var 7) (de_var 8)) (de_max2 c B (da_cons (de_ixv 3 (pv 3) (de_add (de_var 7) (de_var 8))) (da_cons (de_ix (de_var 6) (de_var 8)) da_nil))))))) dss_nil)))))
    (dss_one (ds_ret (DF.sh (df_slv 3 (pv 3) (do_some de_int) (do_some (de_sub (de_len B (da_cons (de_var 2) da_nil)) de_int)))))))))
theorem sc_parts_of : FnScope [("pattern" : Str), ("signs" : Str), ("digits" : Str), ("before" : Str), ("sign" : Str), ("inner" : Str)] [("pattern" : Str)] (defScope s_parts_of) := ⟨rfl, rfl, rfl, by decide +kernel, rfl, by decide +kernel, by decide +kernel⟩
theorem G_parts_of {f : Addr} {fd : FuncData} (B : Bi mg) (h_DIGITS : ∃ t, mg ("DIGITS" : Str) = some (.str ("0123456789" : Str) t)) (h_LETTERS : ∃ t, mg ("LETTERS" : Str) = some (.str ("abcdefghijklmnopqrstuvwxyz" : Str) t)) (F : FnP K ("parts_of" : Str) ("parts_of" : Str) s_parts_of f fd) (hm : mg ("parts_of" : Str) = some (.ref f)) : Fd P w K mg base ("parts_of" : Str) 1 false false 1 F_parts_of := by
  obtain ⟨t_DIGITS, h_DIGITS⟩ := h_DIGITS
  obtain ⟨t_LETTERS, h_LETTERS⟩ := h_LETTERS
  exact fd_okD (k := 0) F hm sc_parts_of (fun _ _ _ _ _ _ us hl => match us, hl with | [_], _ => rfl) (by decide) fun cdv A outer s H E c po =>
    (dss_cons (ds_set c 1 de_str)
    (dss_cons (ds_setF c 2 (df_lst (da_cons de_int da_nil)))
    (dss_cons (ds_set c 3 de_str)
    (dss_cons (ds_for po c (di_seq (de_var 0)) (dg_name c 4) (dss_cons (ds_if (dt_cmp (cr_in c) (de_var 4) (de_glob (v := .str ("0123456789" : Str)) h_DIGITS ⟨t_DIGITS, rfl⟩ fun _ => .str _)) (dss_cons (ds_if (dt_w (dw_and (dt_truv 3 (pv 3)) (dw_and1 (dt_cmp (cr_in c) (de_var 3) (de_glob (v := .str ("0123456789" : Str)) h_DIGITS ⟨t_DIGITS, rfl⟩ fun _ => .str _))))) (dss_one (ds_ret de_non)) dss_nil)
    (dss_one (ds_sub 2 (pv 2) (de_neg de_int) (de_toint B (da_cons (de_var 4) da_nil))))) (dss_cons (ds_augAdd c 1 (de_var 4))
    (dss_one (ds_expr (de_append 2 (pv 2) (da_cons de_int da_nil))))))
    (dss_one (ds_set c 3 (de_var 4)))))
    (dss_cons (ds_set c 5 (de_if (dt_cmp (cr_eq c) (de_sl (de_var 1) do_none (do_some de_int)) de_str) (de_sl (de_var 1) (do_some de_int) do_none) (de_var 1)))
    (dss_cons (ds_set c 5 (de_if (dt_cmp (cr_eq c) (de_sl (de_var 5) (do_some (de_neg de_int)) do_none) de_str) (de_sl (de_var 5) do_none (do_some (de_neg de_int))) (de_var 5)))
    (dss_cons (ds_if (dt_w (dw_or (dt_not (dt_truv 5 (pv 5))) (dw_or1 (dt_tru (DF.sh (df_lc [(("sign" : Str), 4)] c (di_seq (de_var 5)) (lg_name 4) (fun _ _ _ _ _ => (dg_name c.blk 4)) (fun _ _ _ _ _ => (dts_one (dt_cmp (cr_notIn c.blk) (de_var 4) (de_glob (v := .str ("abcdefghijklmnopqrstuvwxyz" : Str)) h_LETTERS ⟨t_LETTERS, rfl⟩ fun _ => .str _)))) (fun _ _ _ _ _ => (de_var 4)) (ok := blkOk_by (N := [("pattern" : Str), ("signs" : Str), ("digits" : Str), ("before" : Str), ("sign" : Str), ("inner" : Str)]) (sc := defScope s_parts_of) (by decide +kernel)))))))) (dss_one (ds_ret de_non)) dss_nil)
    (dss_one (ds_ret (de_tup (da_cons (de_var 1) (da_cons (de_var 2) da_nil))))))))))))
theorem sc_check_word : FnScope [("word" : Str), ("patterns" : Str), ("found" : Str), ("pattern" : Str), ("sign" : Str)] [("word" : Str), ("patterns" : Str)] (defScope s_check_word) := ⟨rfl, rfl, rfl, by decide +kernel, rfl, by decide +kernel, by decide +kernel⟩
theorem G_check_word {f : Addr} {fd : FuncData} (B : Bi mg) (h_LETTERS : ∃ t, mg ("LETTERS" : Str) = some (.str ("abcdefghijklmnopqrstuvwxyz" : Str) t)) (E_InvalidText : Ec P w K mg base ("InvalidText" : Str) "what") (G_parts_of : Fd P w K mg base ("parts_of" : Str) 1 false false 1 F_parts_of) (F : FnP K ("check_word" : Str) ("check_word" : Str) s_check_word f fd) (hm : mg ("check_word" : Str) = some (.ref f)) : Fd P w K mg base ("check_word" : Str) 3 false false 2 F_check_word := by
  obtain ⟨t_LETTERS, h_LETTERS⟩ := h_LETTERS
  exact fd_okD (k := 2) F hm sc_check_word (fun _ _ _ _ _ _ us hl => match us, hl with | [_, _], _ => rfl) (by decide) fun cdv A outer s H E c po =>
    (dss_cons (ds_setLc 2 [(("pattern" : Str), 3)] c (di_seq (de_var 1)) (lg_name 3) (fun _ _ _ _ _ => (dg_name c.blk 3)) (fun _ _ _ _ _ => dts_nil) (fun _ _ _ _ _ => (de_call G_parts_of c.blk (da_cons (de_var 3) da_nil))) (ok := blkOk_by (N := [("word" : Str), ("patterns" : Str), ("found" : Str), ("pattern" : Str), ("sign" : Str)]) (sc := defScope s_check_word) (by decide +kernel)))
    (dss_cons (ds_if (dt_cmp (cr_in c) de_non (de_var 2)) (dss_one (ds_raise E_InvalidText c de_str)) dss_nil)
    (dss_cons (ds_if (dt_w (dw_or (dt_not (dt_truv 0 (pv 0))) (dw_or1 (dt_tru (DF.sh (df_lc [(("sign" : Str), 4)] c (di_seq (de_var 0)) (lg_name 4) (fun _ _ _ _ _ => (dg_name c.blk 4)) (fun _ _ _ _ _ => (dts_one (dt_cmp (cr_notIn c.blk) (de_var 4) (de_glob (v := .str ("abcdefghijklmnopqrstuvwxyz" : Str)) h_LETTERS ⟨t_LETTERS, rfl⟩ fun _ => .str _)))) (fun _ _ _ _ _ => (de_var 4)) (ok := blkOk_by (N := [("word" : Str), ("patterns" : Str), ("found" : Str), ("pattern" : Str), ("sign" : Str)]) (sc := defScope s_check_word) (by decide +kernel)))))))) (dss_one (ds_raise E_InvalidText c de_str)) dss_nil)
    (dss_one (ds_ret (de_var 2))))))
theorem sc_values_in : FnScope [("word" : Str), ("patterns" : Str), ("rows" : Str), ("whole" : Str), ("values" : Str), ("signs" : Str), ("digits" : Str), ("start" : Str), ("at" : Str)] [("word" : Str), ("patterns" : Str)] (defScope s_values_in) := ⟨rfl, rfl, rfl, by decide +kernel, rfl, by decide +kernel, by decide +kernel⟩
theorem G_values_in {f : Addr} {fd : FuncData} (B : Bi mg) (G_check_word : Fd P w K mg base ("check_word" : Str) 3 false false 2 F_check_word) (F : FnP K ("values_in" : Str) ("values_in" : Str) s_values_in f fd) (hm : mg ("values_in" : Str) = some (.ref f)) : Fd P w K mg base ("values_in" : Str) 4 false false 2 F_values_in := by
  exact fd_okD (k := 3) F hm sc_values_in (fun _ _ _ _ _ _ us hl => match us, hl with | [_, _], _ => rfl) (by decide) fun cdv A outer s H E c po =>
    (dss_cons (ds_set c 2 (de_call G_check_word c (da_cons (de_var 0) (da_cons (de_var 1) da_nil))))
    (dss_cons (ds_set c 3 (de_add (de_add de_str (de_var 0)) de_str))
    (dss_cons (ds_setF c 4 (df_rep (DF.sh (df_lst (da_cons de_int da_nil))) (de_add (de_len B (da_cons (de_var 3) da_nil)) de_int)))
    (dss_cons (ds_for po c (di_seq (de_var 2)) (dg_tup c (dgs_cons (dg_name c 5) (dgs_cons (dg_name c 6) dgs_nil))) (dss_one (ds_for po c (di_r1 B (da_cons (de_add (de_sub (de_len B (da_cons (de_var 3) da_nil)) (de_len B (da_cons (de_var 5) da_nil))) de_int) da_nil)) (dg_name c 7) (dss_one (ds_if (dt_cmp (cr_eq c) (de_sl (de_var 3) (do_some (de_var 7)) (do_some (de_add (de_var 7) (de_len B (da_cons (de_var 5) da_nil))))) (de_var 5)) (dss_one (ds_for po c (di_r1 B (da_cons (de_len B (da_cons (de_var 6) da_nil)) da_nil)) (dg_name c 8) (dss_one (ds_sub 4 (pv 4) (de_add (de_var 7) (de_var 8)) (de_max2 c B (da_cons (de_ixv 4 (pv 4) (de_add (de_var 7) (de_var 8))) (da_cons (de_ix (de_var 6) (de_var 8)) da_nil))))))) dss_nil)))))
    (dss_one (ds_ret (DF.sh (df_slv 4 (pv 4) (do_some de_int) (do_some (de_add (de_len B (da_cons (de_var 0) da_nil)) de_int))))))))))
theorem sc_hyphens : FnScope [("word" : Str), ("patterns" : Str), ("values" : Str), ("at" : Str)] [("word" : Str), ("patterns" : Str)] (defScope s_hyphens) := ⟨rfl, rfl, rfl, by decide +kernel, rfl, by decide +kernel, by decide +kernel⟩
theorem G_hyphens {f : Addr} {fd : FuncData} (B : Bi mg) (G_values_in : Fd P w K mg base ("values_in" : Str) 4 false false 2 F_values_in) (F : FnP K ("hyphens" : Str) ("hyphens" : Str) s_hyphens f fd) (hm : mg ("hyphens" : Str) = some (.ref f)) : Fd P w K mg base ("hyphens" : Str) 5 false false 2 F_hyphens := by
  exact fd_okD (k := 4) F hm sc_hyphens (fun _ _ _ _ _ _ us hl => match us, hl with | [_, _], _ => rfl) (by decide) fun cdv A outer s H E c po =>
    (dss_cons (ds_set c 2 (de_call G_values_in c (da_cons (de_var 0) (da_cons (de_var 1) da_nil))))
    (dss_one (ds_ret (DF.sh (df_lc [(("at" : Str), 3)] c (di_r1 B (da_cons (de_len B (da_cons (de_var 2) da_nil)) da_nil)) (lg_name 3) (fun _ _ _ _ _ => (dg_name c.blk 3)) (fun _ _ _ _ _ => (dts_one (dt_w (dw_and (dt_cmp (cr_eq c.blk) (de_mod (de_ix (de_var 2) (de_var 3)) de_int) de_int) (dw_and1 (dt_chain cr_le cr_le de_int (de_add (de_var 3) de_int) (de_sub (de_len B (da_cons (de_var 0) da_nil)) de_int))))))) (fun _ _ _ _ _ => (de_add (de_var 3) de_int)) (ok := blkOk_by (N := [("word" : Str), ("patterns" : Str), ("values" : Str), ("at" : Str)]) (sc := defScope s_hyphens) (by decide +kernel)))))))
theorem sc_word_items : FnScope [("word" : Str), ("patterns" : Str), ("widths" : Str), ("cost" : Str), ("cuts" : Str), ("found" : Str), ("at" : Str), ("part" : Str), ("sign" : Str)] [("word" : Str), ("patterns" : Str), ("widths" : Str), ("cost" : Str)] (defScope s_word_items) := ⟨rfl, rfl, rfl, by decide +kernel, rfl, by decide +kernel, by decide +kernel⟩
theorem G_word_items {f : Addr} {fd : FuncData} (B : Bi mg) (E_InvalidItems : Ec P w K mg base ("InvalidItems" : Str) "what") (E_InvalidLength : Ec P w K mg base ("InvalidLength" : Str) "what") (G_hyphens : Fd P w K mg base ("hyphens" : Str) 5 false false 2 F_hyphens) (F : FnP K ("word_items" : Str) ("word_items" : Str) s_word_items f fd) (hm : mg ("word_items" : Str) = some (.ref f)) : Fd P w K mg base ("word_items" : Str) 6 false false 4 F_word_items := by
  exact fd_okD (k := 5) F hm sc_word_items (fun _ _ _ _ _ _ us hl => match us, hl with | [_, _, _, _], _ => rfl) (by decide) fun cdv A outer s H E c po =>
    (dss_cons (ds_set c 4 (de_add (de_add (DF.sh (df_lst (da_cons de_int da_nil))) (de_call G_hyphens c (da_cons (de_var 0) (da_cons (de_var 1) da_nil)))) (DF.sh (df_lst (da_cons (de_len B (da_cons (de_var 0) da_nil)) da_nil)))))
    (dss_cons (ds_if (dt_tru (DF.sh (df_lc [(("sign" : Str), 8)] c (di_seq (de_add (de_var 0) de_str)) (lg_name 8) (fun _ _ _ _ _ => (dg_name c.blk 8)) (fun _ _ _ _ _ => (dts_one (dt_cmp cr_lt (de_dget2v 2 c.blk (pv 2) (de_var 8) (de_neg de_int)) de_int))) (fun _ _ _ _ _ => (de_var 8)) (ok := blkOk_by (N := [("word" : Str), ("patterns" : Str), ("widths" : Str), ("cost" : Str), ("cuts" : Str), ("found" : Str), ("at" : Str), ("part" : Str), ("sign" : Str)]) (sc := defScope s_word_items) (by decide +kernel))))) (dss_one (ds_raise E_InvalidLength c de_str)) dss_nil)
    (dss_cons (ds_if (dt_not (dt_chain cr_le cr_le (de_neg de_int) (de_var 3) de_int)) (dss_one (ds_raise E_InvalidItems c de_str)) dss_nil)
    (dss_cons (ds_setF c 5 (df_lst da_nil))
    (dss_cons (ds_for po c (di_r1 B (da_cons (de_sub (de_len B (da_cons (de_var 4) da_nil)) de_int) da_nil)) (dg_name c 6) (dss_cons (ds_set c 7 (de_sl (de_var 0) (do_some (de_ix (de_var 4) (de_var 6))) (do_some (de_ix (de_var 4) (de_add (de_var 6) de_int)))))
    (dss_cons (ds_if (dt_truv 5 (pv 5)) (dss_one (ds_expr (de_append 5 (pv 5) (da_cons (de_tup (da_cons de_str (da_cons (de_dgv 2 c (pv 2) de_str) (da_cons (de_var 3) (da_cons de_bl da_nil))))) da_nil)))) dss_nil)
    (dss_one (ds_expr (de_append 5 (pv 5) (da_cons (de_tup (da_cons de_str (da_cons (de_sum c B (da_cons (DF.sh (df_lc [(("sign" : Str), 8)] c (di_seq (de_var 7)) (lg_name 8) (fun _ _ _ _ _ => (dg_name c.blk 8)) (fun _ _ _ _ _ => dts_nil) (fun _ _ _ _ _ => (de_dgv 2 c.blk (pv 2) (de_var 8))) (ok := blkOk_by (N := [("word" : Str), ("patterns" : Str), ("widths" : Str), ("cost" : Str), ("cuts" : Str), ("found" : Str), ("at" : Str), ("part" : Str), ("sign" : Str)]) (sc := defScope s_word_items) (by decide +kernel)))) da_nil)) (da_cons (de_var 7) da_nil)))) da_nil)))))))
    (dss_one (ds_ret (de_var 5))))))))
theorem sc__law_refusal : FnScope [("ask" : Str), ("word" : Str), ("patterns" : Str), ("widths" : Str), ("cost" : Str), ("error" : Str)] [("ask" : Str), ("word" : Str), ("patterns" : Str), ("widths" : Str), ("cost" : Str)] (defScope s__law_refusal) := ⟨rfl, rfl, rfl, by decide +kernel, rfl, by decide +kernel, by decide +kernel⟩
theorem G__law_refusal {f : Addr} {fd : FuncData} (B : Bi mg) (E_InvalidItems : Ec P w K mg base ("InvalidItems" : Str) "what") (E_InvalidLength : Ec P w K mg base ("InvalidLength" : Str) "what") (E_InvalidText : Ec P w K mg base ("InvalidText" : Str) "what") (exm : exmB K errs = true) (hms : ∀ y ∈ errs, mg y = some (.ref (He.ga K y))) (G_values_in : Fd P w K mg base ("values_in" : Str) 4 false false 2 F_values_in) (G_hyphens : Fd P w K mg base ("hyphens" : Str) 5 false false 2 F_hyphens) (G_word_items : Fd P w K mg base ("word_items" : Str) 6 false false 4 F_word_items) (F : FnP K ("_law_refusal" : Str) ("_law_refusal" : Str) s__law_refusal f fd) (hm : mg ("_law_refusal" : Str) = some (.ref f)) : Fd P w K mg base ("_law_refusal" : Str) 7 false false 5 F__law_refusal := by
  exact fd_okD (k := 6) F hm sc__law_refusal (fun _ _ _ _ _ _ us hl => match us, hl with | [_, _, _, _, _], _ => rfl) (by decide) fun cdv A outer s H E c po =>
    (dss_cons (ds_try (n := ("error" : Str)) errs [("InvalidText" : Str), ("InvalidLength" : Str), ("InvalidItems" : Str)] 5 exm hms c (fun _ _ _ c po => (dss_one (ds_if (dt_cmp (cr_eq c) (de_var 0) de_int) (dss_one (ds_expr (de_call G_values_in c (da_cons (de_var 1) (da_cons (de_var 2) da_nil))))) (dss_one (ds_if (dt_cmp (cr_eq c) (de_var 0) de_int) (dss_one (ds_expr (de_call G_hyphens c (da_cons (de_var 1) (da_cons (de_var 2) da_nil))))) (dss_one (ds_expr (de_call G_word_items c (da_cons (de_var 1) (da_cons (de_var 2) (da_cons (de_var 3) (da_cons (de_var 4) da_nil)))))))))))) (clause E_InvalidText (clause E_InvalidLength (clause E_InvalidItems .nil))))
    (dss_one (ds_ret de_non)))
theorem sc__law_pattern : FnScope [("deck" : Str), ("signs" : Str), ("digits" : Str), ("text" : Str), ("at" : Str)] [("deck" : Str)] (defScope s__law_pattern) := ⟨rfl, rfl, rfl, by decide +kernel, rfl, by decide +kernel, by decide +kernel⟩
theorem G__law_pattern {f : Addr} {fd : FuncData} (B : Bi mg) (G__law_take : Fd P w K mg base ("_law_take" : Str) 1 true false 2 F__law_take) (G__law_word : Fd P w K mg base ("_law_word" : Str) 2 true false 2 F__law_word) (F : FnP K ("_law_pattern" : Str) ("_law_pattern" : Str) s__law_pattern f fd) (hm : mg ("_law_pattern" : Str) = some (.ref f)) : Fd P w K mg base ("_law_pattern" : Str) 3 true false 1 F__law_pattern := by
  exact fd_okD (k := 2) F hm sc__law_pattern (fun _ _ _ _ _ _ us hl => match us, hl with | [_], _ => rfl) (by decide) fun cdv A outer s H E c po =>
    (dss_cons (ds_set c 1 (de_callIo G__law_word c 0 (pv 0) (da_cons de_int da_nil)))
    (dss_cons (ds_if (dt_cmp (cr_eq c) (de_callIo G__law_take c 0 (pv 0) (da_cons de_int da_nil)) de_int) (dss_one (ds_set c 1 (de_add de_str (de_var 1)))) dss_nil)
    (dss_cons (ds_if (dt_cmp (cr_eq c) (de_callIo G__law_take c 0 (pv 0) (da_cons de_int da_nil)) de_int) (dss_one (ds_set c 1 (de_add (de_var 1) de_str))) dss_nil)
    (dss_cons (ds_setLc 2 [(("at" : Str), 4)] c (di_r1 B (da_cons (de_add (de_len B (da_cons (de_var 1) da_nil)) de_int) da_nil)) (lg_name 4) (fun _ _ _ _ _ => (dg_name c.blk 4)) (fun _ _ _ _ _ => dts_nil) (fun _ _ _ _ _ => (de_mul (de_callIo G__law_take c.blk 0 (pv 0) (da_cons de_int da_nil)) (de_callIo G__law_take c.blk 0 (pv 0) (da_cons de_int da_nil)))) (ok := blkOk_by (N := [("deck" : Str), ("signs" : Str), ("digits" : Str), ("text" : Str), ("at" : Str)]) (sc := defScope s__law_pattern) (by decide +kernel)))
    (dss_cons (ds_set c 3 de_str)
    (dss_cons (ds_for po c (di_r1 B (da_cons (de_len B (da_cons (de_var 2) da_nil)) da_nil)) (dg_name c 4) (dss_cons (ds_if (dt_w (dw_or (dt_cmp cr_gt (de_ix (de_var 2) (de_var 4)) de_int) (dw_or1 (dt_cmp (cr_eq c) (de_callIo G__law_take c 0 (pv 0) (da_cons de_int da_nil)) de_int)))) (dss_one (ds_set c 3 (de_add (de_var 3) (de_ix de_str (de_ix (de_var 2) (de_var 4)))))) dss_nil)
    (dss_one (ds_if (dt_cmp cr_lt (de_var 4) (de_len B (da_cons (de_var 1) da_nil))) (dss_one (ds_set c 3 (de_add (de_var 3) (de_ix (de_var 1) (de_var 4))))) dss_nil))))
    (dss_one (ds_ret (de_tup (da_cons (de_var 3) (da_cons (de_var 1) (da_cons (de_var 2) da_nil))))))))))))
theorem sc__law_plain : FnScope [("value" : Str), ("item" : Str)] [("value" : Str)] (defScope s__law_plain) := ⟨rfl, rfl, rfl, by decide +kernel, rfl, by decide +kernel, by decide +kernel⟩
theorem G__law_plain {f : Addr} {fd : FuncData} (B : Bi mg) (F : FnP K ("_law_plain" : Str) ("_law_plain" : Str) s__law_plain f fd) (hm : mg ("_law_plain" : Str) = some (.ref f)) : ∀ n : Nat, Fd P w K mg base ("_law_plain" : Str) (n + 1) false false 1 (F__law_plain_ n)
  | 0 => fd_okD (k := 0) F hm sc__law_plain (fun _ _ _ _ _ _ us hl => match us, hl with | [_], _ => rfl) (by decide) fun cdv A outer s H E c po => dss_bad
  | n + 1 => by
    have G__law_plain := G__law_plain B F hm n
    exact fd_okD (k := n + 1) F hm sc__law_plain (fun _ _ _ _ _ _ us hl => match us, hl with | [_], _ => rfl) (by decide) fun cdv A outer s H E c po =>
    (dss_cons (ds_if (dt_tru (de_isi2 "tuple" "list" B (de_var 0) B.tuple (by decide +kernel) B.list (by decide +kernel))) (dss_one (ds_ret (de_add (DF.sh (df_lst (da_cons (de_isi "list" B (de_var 0) B.list (by decide +kernel)) da_nil))) (DF.sh (df_lc [(("item" : Str), 1)] c (di_seq (de_var 0)) (lg_name 1) (fun _ _ _ _ _ => (dg_name c.blk 1)) (fun _ _ _ _ _ => dts_nil) (fun _ _ _ _ _ => (de_call G__law_plain c.blk (da_cons (de_var 1) da_nil) (hj := Nat.le_refl (n + 1)))) (ok := blkOk_by (N := [("value" : Str), ("item" : Str)]) (sc := defScope s__law_plain) (by decide +kernel))))))) dss_nil)
    (dss_cons (ds_if (dt_w (dw_or (dt_cmp cr_is (de_var 0) de_non) (dw_or1 (dt_tru (de_isi "bool" B (de_var 0) B.bool (by decide +kernel)))))) (dss_one (ds_ret (de_ix (DF.sh (df_lst (da_cons de_str (da_cons de_str (da_cons de_str da_nil))))) (de_add (de_toint B (da_cons (de_cmp cr_isNot (de_var 0) de_non) da_nil)) (de_toint B (da_cons (de_cmp cr_isB (de_var 0) de_bl) da_nil)))))) dss_nil)
    (dss_cons (ds_if (dt_tru (de_isi2 "int" "str" B (de_var 0) B.int (by decide +kernel) B.str (by decide +kernel))) (dss_one (ds_ret (DF.sh (df_lst (da_cons (de_isi "str" B (de_var 0) B.str (by decide +kernel)) (da_cons (de_var 0) da_nil)))))) dss_nil)
    (dss_one (ds_ret de_str)))))
theorem sc_law : FnScope [("script" : Str), ("deck" : Str), ("turn" : Str), ("word" : Str), ("patterns" : Str), ("texts" : Str), ("due" : Str), ("cuts" : Str), ("widths" : Str), ("cost" : Str), ("places" : Str), ("rows" : Str), ("at" : Str), ("part" : Str), ("ask" : Str), ("wrong" : Str), ("other" : Str), ("told" : Str), ("again" : Str), ("pattern" : Str), ("sign" : Str)] [("script" : Str)] (defScope s_law) := ⟨rfl, rfl, rfl, by decide +kernel, rfl, by decide +kernel, by decide +kernel⟩
theorem G_law {f : Addr} {fd : FuncData} (B : Bi mg) (G__law_deck : Fd P w K mg base ("_law_deck" : Str) 1 false true 3 F__law_deck) (G__law_take : Fd P w K mg base ("_law_take" : Str) 1 true false 2 F__law_take) (G__law_word : Fd P w K mg base ("_law_word" : Str) 2 true false 2 F__law_word) (G__law_values : Fd P w K mg base ("_law_values" : Str) 1 false false 2 F__law_values) (G_values_in : Fd P w K mg base ("values_in" : Str) 4 false false 2 F_values_in) (G_hyphens : Fd P w K mg base ("hyphens" : Str) 5 false false 2 F_hyphens) (G_word_items : Fd P w K mg base ("word_items" : Str) 6 false false 4 F_word_items) (G__law_refusal : Fd P w K mg base ("_law_refusal" : Str) 7 false false 5 F__law_refusal) (G__law_pattern : Fd P w K mg base ("_law_pattern" : Str) 3 true false 1 F__law_pattern) (G__law_plain : Fd P w K mg base ("_law_plain" : Str) 6 false false 1 F__law_plain) (F : FnP K ("law" : Str) ("law" : Str) s_law f fd) (hm : mg ("law" : Str) = some (.ref f)) : FnOk P w K mg base (L2.CX P w) 8 f fd [("script" : Str)] (spD K mg false false 1 F_law) := by
  exact fn_okD (k := 7) F sc_law (by decide) fun cdv A outer s H E c po =>
    (dss_cons (ds_setF c 1 (df_call G__law_deck c (da_cons (de_var 0) (da_cons de_int (da_cons de_int da_nil)))))
    (dss_cons (ds_for po c (di_r1 B (da_cons de_int da_nil)) (dg_name c 2) (dss_cons (ds_set c 3 (de_callIo G__law_word c 1 (pv 1) (da_cons de_int da_nil)))
    (dss_cons (ds_setLc 4 [(("again" : Str), 18)] c (di_r1 B (da_cons (de_callIo G__law_take c 1 (pv 1) (da_cons de_int da_nil)) da_nil)) (lg_name 18) (fun _ _ _ _ _ => (dg_name c.blk 18)) (fun _ _ _ _ _ => dts_nil) (fun _ _ _ _ _ => (de_callIo G__law_pattern c.blk 1 (pv 1) da_nil)) (ok := blkOk_by (N := [("script" : Str), ("deck" : Str), ("turn" : Str), ("word" : Str), ("patterns" : Str), ("texts" : Str), ("due" : Str), ("cuts" : Str), ("widths" : Str), ("cost" : Str), ("places" : Str), ("rows" : Str), ("at" : Str), ("part" : Str), ("ask" : Str), ("wrong" : Str), ("other" : Str), ("told" : Str), ("again" : Str), ("pattern" : Str), ("sign" : Str)]) (sc := defScope s_law) (by decide +kernel)))
    (dss_cons (ds_setLc 5 [(("pattern" : Str), 19)] c (di_seq (de_var 4)) (lg_name 19) (fun _ _ _ _ _ => (dg_name c.blk 19)) (fun _ _ _ _ _ => dts_nil) (fun _ _ _ _ _ => (de_ix (de_var 19) de_int)) (ok := blkOk_by (N := [("script" : Str), ("deck" : Str), ("turn" : Str), ("word" : Str), ("patterns" : Str), ("texts" : Str), ("due" : Str), ("cuts" : Str), ("widths" : Str), ("cost" : Str), ("places" : Str), ("rows" : Str), ("at" : Str), ("part" : Str), ("ask" : Str), ("wrong" : Str), ("other" : Str), ("told" : Str), ("again" : Str), ("pattern" : Str), ("sign" : Str)]) (sc := defScope s_law) (by decide +kernel)))
    (dss_cons (ds_set c 6 (de_call G__law_values c (da_cons (de_var 3) (da_cons (de_var 4) da_nil))))
    (dss_cons (ds_if (dt_cmp (cr_ne c) (de_call G__law_plain c (da_cons (de_call G_values_in c (da_cons (de_var 3) (da_cons (DF.sh (df_listOf B (da_cons (de_var 5) da_nil))) da_nil))) da_nil)) (de_call G__law_plain c (da_cons (de_var 6) da_nil))) (dss_one (ds_ret de_bl)) dss_nil)
    (dss_cons (ds_setLc 7 [(("at" : Str), 12)] c (di_r2 B (da_cons de_int (da_cons (de_sub (de_len B (da_cons (de_var 3) da_nil)) de_int) da_nil))) (lg_name 12) (fun _ _ _ _ _ => (dg_name c.blk 12)) (fun _ _ _ _ _ => (dts_one (dt_cmp (cr_eq c.blk) (de_mod (de_toint B (da_cons (de_ix (de_var 6) (de_sub (de_var 12) de_int)) da_nil)) de_int) de_int))) (fun _ _ _ _ _ => (de_var 12)) (ok := blkOk_by (N := [("script" : Str), ("deck" : Str), ("turn" : Str), ("word" : Str), ("patterns" : Str), ("texts" : Str), ("due" : Str), ("cuts" : Str), ("widths" : Str), ("cost" : Str), ("places" : Str), ("rows" : Str), ("at" : Str), ("part" : Str), ("ask" : Str), ("wrong" : Str), ("other" : Str), ("told" : Str), ("again" : Str), ("pattern" : Str), ("sign" : Str)]) (sc := defScope s_law) (by decide +kernel)))
    (dss_cons (ds_if (dt_cmp (cr_ne c) (de_call G__law_plain c (da_cons (de_call G_hyphens c (da_cons (de_var 3) (da_cons (de_var 5) da_nil))) da_nil)) (de_call G__law_plain c (da_cons (de_var 7) da_nil))) (dss_one (ds_ret de_bl)) dss_nil)
    (dss_cons (ds_set c 8 (DF.sh (df_disp (dps_cons de_str (de_callIo G__law_take c.wf 1 (pv 1) (da_cons de_int da_nil)) (dps_cons de_str de_int (dps_cons de_str de_int (dps_cons de_str (de_callIo G__law_take c.wf 1 (pv 1) (da_cons de_int da_nil)) dps_nil)))))))
    (dss_cons (ds_set c 9 (de_sub (de_callIo G__law_take c 1 (pv 1) (da_cons de_int da_nil)) de_int))
    (dss_cons (ds_set c 10 (de_add (de_add (DF.sh (df_lst (da_cons de_int da_nil))) (de_var 7)) (DF.sh (df_lst (da_cons (de_len B (da_cons (de_var 3) da_nil)) da_nil)))))
    (dss_cons (ds_setF c 11 (df_lst da_nil))
    (dss_cons (ds_for po c (di_r1 B (da_cons (de_sub (de_len B (da_cons (de_var 10) da_nil)) de_int) da_nil)) (dg_name c 12) (dss_cons (ds_set c 13 (de_sl (de_var 3) (do_some (de_ix (de_var 10) (de_var 12))) (do_some (de_ix (de_var 10) (de_add (de_var 12) de_int)))))
    (dss_cons (ds_if (dt_cmp cr_gt (de_var 12) de_int) (dss_one (ds_expr (de_append 11 (pv 11) (da_cons (de_tup (da_cons de_str (da_cons (de_dgv 8 c (pv 8) de_str) (da_cons (de_var 9) (da_cons de_bl da_nil))))) da_nil)))) dss_nil)
    (dss_one (ds_expr (de_append 11 (pv 11) (da_cons (de_tup (da_cons de_str (da_cons (de_sum c B (da_cons (DF.sh (df_lc [(("sign" : Str), 20)] c (di_seq (de_var 13)) (lg_name 20) (fun _ _ _ _ _ => (dg_name c.blk 20)) (fun _ _ _ _ _ => dts_nil) (fun _ _ _ _ _ => (de_dgv 8 c.blk (pv 8) (de_var 20))) (ok := blkOk_by (N := [("script" : Str), ("deck" : Str), ("turn" : Str), ("word" : Str), ("patterns" : Str), ("texts" : Str), ("due" : Str), ("cuts" : Str), ("widths" : Str), ("cost" : Str), ("places" : Str), ("rows" : Str), ("at" : Str), ("part" : Str), ("ask" : Str), ("wrong" : Str), ("other" : Str), ("told" : Str), ("again" : Str), ("pattern" : Str), ("sign" : Str)]) (sc := defScope s_law) (by decide +kernel)))) da_nil)) (da_cons (de_var 13) da_nil)))) da_nil)))))))
    (dss_one (ds_if (dt_cmp (cr_ne c) (de_call G__law_plain c (da_cons (de_call G_word_items c (da_cons (de_var 3) (da_cons (de_var 5) (da_cons (de_var 8) (da_cons (de_var 9) da_nil))))) da_nil)) (de_call G__law_plain c (da_cons (de_var 11) da_nil))) (dss_one (ds_ret de_bl)) dss_nil)))))))))))))))
    (dss_cons (ds_set c 14 (de_callIo G__law_take c 1 (pv 1) (da_cons de_int da_nil)))
    (dss_cons (ds_set c 15 (de_ix (DF.sh (df_lst (da_cons de_str (da_cons de_str (da_cons de_str (da_cons de_str (da_cons de_str (da_cons de_str (da_cons de_str (da_cons de_str da_nil)))))))))) (de_callIo G__law_take c 1 (pv 1) (da_cons de_int da_nil))))
    (dss_cons (ds_set c 16 (de_ix (DF.sh (df_lst (da_cons de_str (da_cons de_str (da_cons de_str da_nil))))) (de_callIo G__law_take c 1 (pv 1) (da_cons de_int da_nil))))
    (dss_cons (ds_set c 17 (DF.sh (df_lst (da_cons (de_call G__law_refusal c (da_cons (de_var 14) (da_cons de_str (da_cons (DF.sh (df_lst (da_cons de_str (da_cons (de_var 15) da_nil)))) (da_cons (DF.sh df_dnewK) (da_cons de_int da_nil)))))) (da_cons (de_call G__law_refusal c (da_cons (de_var 14) (da_cons (de_var 16) (da_cons (DF.sh (df_lst da_nil)) (da_cons (DF.sh df_dnewK) (da_cons de_int da_nil)))))) da_nil)))))
    (dss_cons (ds_set c 17 (de_add (de_var 17) (DF.sh (df_lst (da_cons (de_call G__law_refusal c (da_cons de_int (da_cons de_str (da_cons (DF.sh (df_lst da_nil)) (da_cons (DF.sh (df_disp (dps_cons de_str de_int (dps_cons de_str de_int dps_nil)))) (da_cons de_int da_nil)))))) (da_cons (de_call G__law_refusal c (da_cons de_int (da_cons de_str (da_cons (DF.sh (df_lst da_nil)) (da_cons (DF.sh (df_disp (dps_cons de_str de_int (dps_cons de_str (de_neg de_int) dps_nil)))) (da_cons de_int da_nil)))))) da_nil))))))
    (dss_one (ds_ret (de_cmp (cr_eq c) (de_add (de_var 17) (DF.sh (df_lst (da_cons (de_call G__law_refusal c (da_cons de_int (da_cons de_str (da_cons (DF.sh (df_lst da_nil)) (da_cons (DF.sh (df_disp (dps_cons de_str de_int (dps_cons de_str de_int dps_nil)))) (da_cons de_int da_nil)))))) da_nil)))) (DF.sh (df_lst (da_cons de_str (da_cons de_str (da_cons de_str (da_cons de_str (da_cons de_str da_nil)))))))))))))))))
end
def fa : List He.Fa := [.glo ("_law_deck" : Str), .glo ("_law_take" : Str), .glo ("_law_word" : Str), .glo ("_law_values" : Str), .glo ("parts_of" : Str), .glo ("check_word" : Str), .glo ("values_in" : Str), .glo ("hyphens" : Str), .glo ("word_items" : Str), .glo ("_law_refusal" : Str), .glo ("_law_pattern" : Str), .glo ("_law_plain" : Str), .glo ("law" : Str), .glo ("InvalidItems" : Str), .glo ("InvalidLength" : Str), .glo ("InvalidText" : Str), .glo ("PressError" : Str), .free ("abs" : Str), .free ("all" : Str), .free ("any" : Str), .free ("bool" : Str), .free ("dict" : Str), .free ("enumerate" : Str), .free ("int" : Str), .free ("isinstance" : Str), .free ("len" : Str), .free ("list" : Str), .free ("max" : Str), .free ("min" : Str), .free ("range" : Str), .free ("reversed" : Str), .free ("set" : Str), .free ("sorted" : Str), .free ("str" : Str), .free ("sum" : Str), .free ("tuple" : Str), .free ("zip" : Str), .str ("DIGITS" : Str) ("0123456789" : Str), .str ("LETTERS" : Str) ("abcdefghijklmnopqrstuvwxyz" : Str)]
def fn : List He.DefD := [⟨(("_law_deck" : Str), none), ("_law_deck" : Str), ("_law_deck" : Str), defArgs s__law_deck, defBody s__law_deck, defScope s__law_deck, [], []⟩, ⟨(("_law_take" : Str), none), ("_law_take" : Str), ("_law_take" : Str), defArgs s__law_take, defBody s__law_take, defScope s__law_take, [], []⟩, ⟨(("_law_word" : Str), none), ("_law_word" : Str), ("_law_word" : Str), defArgs s__law_word, defBody s__law_word, defScope s__law_word, [], []⟩, ⟨(("_law_values" : Str), none), ("_law_values" : Str), ("_law_values" : Str), defArgs s__law_values, defBody s__law_values, defScope s__law_values, [], []⟩, ⟨(("parts_of" : Str), none), ("parts_of" : Str), ("parts_of" : Str), defArgs s_parts_of, defBody s_parts_of, defScope s_parts_of, [], []⟩, ⟨(("check_word" : Str), none), ("check_word" : Str), ("check_word" : Str), defArgs s_check_word, defBody s_check_word, defScope s_check_word, [], []⟩, ⟨(("values_in" : Str), none), ("values_in" : Str), ("values_in" : Str), defArgs s_values_in, defBody s_values_in, defScope s_values_in, [], []⟩, ⟨(("hyphens" : Str), none), ("hyphens" : Str), ("hyphens" : Str), defArgs s_hyphens, defBody s_hyphens, defScope s_hyphens, [], []⟩, ⟨(("word_items" : Str), none), ("word_items" : Str), ("word_items" : Str), defArgs s_word_items, defBody s_word_items, defScope s_word_items, [], []⟩, ⟨(("_law_refusal" : Str), none), ("_law_refusal" : Str), ("_law_refusal" : Str), defArgs s__law_refusal, defBody s__law_refusal, defScope s__law_refusal, [], []⟩, ⟨(("_law_pattern" : Str), none), ("_law_pattern" : Str), ("_law_pattern" : Str), defArgs s__law_pattern, defBody s__law_pattern, defScope s__law_pattern, [], []⟩, ⟨(("_law_plain" : Str), none), ("_law_plain" : Str), ("_law_plain" : Str), defArgs s__law_plain, defBody s__law_plain, defScope s__law_plain, [], []⟩, ⟨(("law" : Str), none), ("law" : Str), ("law" : Str), defArgs s_law, defBody s_law, defScope s_law, [], []⟩, ⟨(("InvalidItems" : Str), some "__init__"), "__init__", "InvalidItems.__init__", defArgs i_InvalidItems, defBody i_InvalidItems, defScope i_InvalidItems, [], []⟩, ⟨(("InvalidLength" : Str), some "__init__"), "__init__", "InvalidLength.__init__", defArgs i_InvalidLength, defBody i_InvalidLength, defScope i_InvalidLength, [], []⟩, ⟨(("InvalidText" : Str), some "__init__"), "__init__", "InvalidText.__init__", defArgs i_InvalidText, defBody i_InvalidText, defScope i_InvalidText, [], []⟩]
def ex (K : PySem.W.Frag) : Bool := (ecB K ("InvalidItems" : Str) "what" && (ecB K ("InvalidLength" : Str) "what" && (ecB K ("InvalidText" : Str) "what" && (peB K "PressError" && exmB K errs))))
abbrev R : PySem.W.OpenRow := PySem.W.OpenLaw.row PySem.Challenge.rw_presswork_k71_whole_hyphens
abbrev hk : PySem.W.Hook := hookY 4 fa fn ex
def ob (s : PySem.W.SharedT) : AlY := obsY 4 fa fn ex (HandSHeadRun.getT s)
theorem ob_eq (s : PySem.W.SharedT) : ob s = hk.obs s.abs := obsY_eq (HandSHeadRun.getT_eq s)
theorem run (w : World) : HandSHeadRun.RunEq R (PySem.W.view R.prog [21]) hk ob 3000 [("PressError" : Str), ("InvalidLength" : Str), ("InvalidItems" : Str), ("InvalidText" : Str), ("LETTERS" : Str), ("DIGITS" : Str), ("parts_of" : Str), ("check_word" : Str), ("values_in" : Str), ("hyphens" : Str), ("word_items" : Str), ("_law_deck" : Str), ("_law_take" : Str), ("_law_plain" : Str), ("_law_word" : Str), ("_law_pattern" : Str), ("_law_values" : Str), ("_law_refusal" : Str)] w := by
  intro os
  kernel_rfl
def F_top : Prop := ∀ ns : List Int, ns.length ≤ 63 → ∃ q, F_law [.klst (ns.map .int)] = .ok (.bl true) q
theorem facts (top_ok : F_top) {P : Program} {w : World} {K : PySem.W.Frag} {h : Heap} {mg : Str → Option Value} {f : Addr} (X : K.In h) (G : h.Ns mainGlobals mg) (hfa : mg ("law" : Str) = some (.ref f)) (c : SaysY fa fn ex w K) :
    ∃ fd : FuncData, (∀ (s : Shared) (v : Value), BindsTo s fd ⟨[v], []⟩ [("script", v)]) ∧ ∀ base : Heap, K.In base → base.Ns mainGlobals mg → FnOk P w K mg base (L2.CX P w) 8 f fd ["script"] (spTop K) := by
  have more : ex K = true := c.more
  have c := c.t.d
  obtain ⟨fd__law_deck, D__law_deck⟩ := c.def_ 0 (d := fn[0]) rfl
  obtain ⟨fd__law_take, D__law_take⟩ := c.def_ 1 (d := fn[1]) rfl
  obtain ⟨fd__law_word, D__law_word⟩ := c.def_ 2 (d := fn[2]) rfl
  obtain ⟨fd__law_values, D__law_values⟩ := c.def_ 3 (d := fn[3]) rfl
  obtain ⟨fd_parts_of, D_parts_of⟩ := c.def_ 4 (d := fn[4]) rfl
  obtain ⟨fd_check_word, D_check_word⟩ := c.def_ 5 (d := fn[5]) rfl
  obtain ⟨fd_values_in, D_values_in⟩ := c.def_ 6 (d := fn[6]) rfl
  obtain ⟨fd_hyphens, D_hyphens⟩ := c.def_ 7 (d := fn[7]) rfl
  obtain ⟨fd_word_items, D_word_items⟩ := c.def_ 8 (d := fn[8]) rfl
  obtain ⟨fd__law_refusal, D__law_refusal⟩ := c.def_ 9 (d := fn[9]) rfl
  obtain ⟨fd__law_pattern, D__law_pattern⟩ := c.def_ 10 (d := fn[10]) rfl
  obtain ⟨fd__law_plain, D__law_plain⟩ := c.def_ 11 (d := fn[11]) rfl
  obtain ⟨fd_law, D_law⟩ := c.def_ 12 (d := fn[12]) rfl
  obtain ⟨fd_InvalidItems, D_InvalidItems⟩ := c.def_ 13 (d := fn[13]) rfl
  obtain ⟨fd_InvalidLength, D_InvalidLength⟩ := c.def_ 14 (d := fn[14]) rfl
  obtain ⟨fd_InvalidText, D_InvalidText⟩ := c.def_ 15 (d := fn[15]) rfl
  have m__law_deck := He.glo_ok X G (c.fact 0 (f := .glo ("_law_deck" : Str)) rfl)
  have m__law_take := He.glo_ok X G (c.fact 1 (f := .glo ("_law_take" : Str)) rfl)
  have m__law_word := He.glo_ok X G (c.fact 2 (f := .glo ("_law_word" : Str)) rfl)
  have m__law_values := He.glo_ok X G (c.fact 3 (f := .glo ("_law_values" : Str)) rfl)
  have m_parts_of := He.glo_ok X G (c.fact 4 (f := .glo ("parts_of" : Str)) rfl)
  have m_check_word := He.glo_ok X G (c.fact 5 (f := .glo ("check_word" : Str)) rfl)
  have m_values_in := He.glo_ok X G (c.fact 6 (f := .glo ("values_in" : Str)) rfl)
  have m_hyphens := He.glo_ok X G (c.fact 7 (f := .glo ("hyphens" : Str)) rfl)
  have m_word_items := He.glo_ok X G (c.fact 8 (f := .glo ("word_items" : Str)) rfl)
  have m__law_refusal := He.glo_ok X G (c.fact 9 (f := .glo ("_law_refusal" : Str)) rfl)
  have m__law_pattern := He.glo_ok X G (c.fact 10 (f := .glo ("_law_pattern" : Str)) rfl)
  have m__law_plain := He.glo_ok X G (c.fact 11 (f := .glo ("_law_plain" : Str)) rfl)
  have m_law := He.glo_ok X G (c.fact 12 (f := .glo ("law" : Str)) rfl)
  have m_InvalidItems := He.glo_ok X G (c.fact 13 (f := .glo ("InvalidItems" : Str)) rfl)
  have m_InvalidLength := He.glo_ok X G (c.fact 14 (f := .glo ("InvalidLength" : Str)) rfl)
  have m_InvalidText := He.glo_ok X G (c.fact 15 (f := .glo ("InvalidText" : Str)) rfl)
  have m_PressError := He.glo_ok X G (c.fact 16 (f := .glo ("PressError" : Str)) rfl)
  have h_DIGITS := He.str_ok X G (c.fact 37 (f := .str ("DIGITS" : Str) ("0123456789" : Str)) rfl)
  have h_LETTERS := He.str_ok X G (c.fact 38 (f := .str ("LETTERS" : Str) ("abcdefghijklmnopqrstuvwxyz" : Str)) rfl)
  have B : Bi mg := ⟨He.free_ok X G (c.fact 25 (f := .free ("len" : Str)) rfl), He.free_ok X G (c.fact 17 (f := .free ("abs" : Str)) rfl), He.free_ok X G (c.fact 27 (f := .free ("max" : Str)) rfl), He.free_ok X G (c.fact 28 (f := .free ("min" : Str)) rfl), He.free_ok X G (c.fact 23 (f := .free ("int" : Str)) rfl), He.free_ok X G (c.fact 34 (f := .free ("sum" : Str)) rfl), He.free_ok X G (c.fact 29 (f := .free ("range" : Str)) rfl), He.free_ok X G (c.fact 26 (f := .free ("list" : Str)) rfl), He.free_ok X G (c.fact 35 (f := .free ("tuple" : Str)) rfl), He.free_ok X G (c.fact 32 (f := .free ("sorted" : Str)) rfl), He.free_ok X G (c.fact 31 (f := .free ("set" : Str)) rfl), He.free_ok X G (c.fact 36 (f := .free ("zip" : Str)) rfl), He.free_ok X G (c.fact 22 (f := .free ("enumerate" : Str)) rfl), He.free_ok X G (c.fact 30 (f := .free ("reversed" : Str)) rfl), He.free_ok X G (c.fact 24 (f := .free ("isinstance" : Str)) rfl), He.free_ok X G (c.fact 33 (f := .free ("str" : Str)) rfl), He.free_ok X G (c.fact 20 (f := .free ("bool" : Str)) rfl), He.free_ok X G (c.fact 21 (f := .free ("dict" : Str)) rfl), He.free_ok X G (c.fact 19 (f := .free ("any" : Str)) rfl), He.free_ok X G (c.fact 18 (f := .free ("all" : Str)) rfl)⟩
  unfold ex at more
  simp only [Bool.and_eq_true] at more
  obtain ⟨x_InvalidItems, x_InvalidLength, x_InvalidText, x_pe, exm⟩ := more
  have T := peB_ok x_pe
  have hms : ∀ y ∈ errs, mg y = some (.ref (He.ga K y)) := by
    intro y hy
    simp only [errs, List.mem_cons, List.not_mem_nil, or_false] at hy
    rcases hy with rfl | rfl | rfl
    · exact m_InvalidItems
    · exact m_InvalidLength
    · exact m_InvalidText
  have e := hfa.symm.trans m_law
  cases e
  refine ⟨fd_law, fun s v => FunD.bindsA (ps := ["script"]) D_law (fun _ _ _ _ _ _ us hl => match us, hl with | [_], _ => rfl) s [v] rfl, fun base _ _ => ?_⟩
  have e_InvalidItems : Ec P w K mg base ("InvalidItems" : Str) "what" := E_InvalidItems (ecB_ok x_InvalidItems) m_InvalidItems T m_PressError D_InvalidItems
  have e_InvalidLength : Ec P w K mg base ("InvalidLength" : Str) "what" := E_InvalidLength (ecB_ok x_InvalidLength) m_InvalidLength T m_PressError D_InvalidLength
  have e_InvalidText : Ec P w K mg base ("InvalidText" : Str) "what" := E_InvalidText (ecB_ok x_InvalidText) m_InvalidText T m_PressError D_InvalidText
  have g__law_deck : Fd P w K mg base ("_law_deck" : Str) 1 false true 3 F__law_deck := G__law_deck B D__law_deck m__law_deck
  have g__law_take : Fd P w K mg base ("_law_take" : Str) 1 true false 2 F__law_take := G__law_take B D__law_take m__law_take
  have g__law_word : Fd P w K mg base ("_law_word" : Str) 2 true false 2 F__law_word := G__law_word B g__law_take D__law_word m__law_word
  have g__law_values : Fd P w K mg base ("_law_values" : Str) 1 false false 2 F__law_values := G__law_values B D__law_values m__law_values
  have g_parts_of : Fd P w K mg base ("parts_of" : Str) 1 false false 1 F_parts_of := G_parts_of B h_DIGITS h_LETTERS D_parts_of m_parts_of
  have g_check_word : Fd P w K mg base ("check_word" : Str) 3 false false 2 F_check_word := G_check_word B h_LETTERS e_InvalidText g_parts_of D_check_word m_check_word
  have g_values_in : Fd P w K mg base ("values_in" : Str) 4 false false 2 F_values_in := G_values_in B g_check_word D_values_in m_values_in
  have g_hyphens : Fd P w K mg base ("hyphens" : Str) 5 false false 2 F_hyphens := G_hyphens B g_values_in D_hyphens m_hyphens
  have g_word_items : Fd P w K mg base ("word_items" : Str) 6 false false 4 F_word_items := G_word_items B e_InvalidItems e_InvalidLength g_hyphens D_word_items m_word_items
  have g__law_refusal : Fd P w K mg base ("_law_refusal" : Str) 7 false false 5 F__law_refusal := G__law_refusal B e_InvalidItems e_InvalidLength e_InvalidText exm hms g_values_in g_hyphens g_word_items D__law_refusal m__law_refusal
  have g__law_pattern : Fd P w K mg base ("_law_pattern" : Str) 3 true false 1 F__law_pattern := G__law_pattern B g__law_take g__law_word D__law_pattern m__law_pattern
  have g__law_plain : Fd P w K mg base ("_law_plain" : Str) 6 false false 1 F__law_plain := G__law_plain B D__law_plain m__law_plain 5
  exact fd_top (G_law B g__law_deck g__law_take g__law_word g__law_values g_values_in g_hyphens g_word_items g__law_refusal g__law_pattern g__law_plain D_law m_law) top_ok
end PL.K71

set_option Elab.async false
set_option linter.all false
set_option maxRecDepth 100000
set_option maxHeartbeats 4000000
namespace PL.K71
open PySem PySem.Spec L2 PL
set_option autoImplicit false
/-! ### texts -/
theorem szn {n : Nat} (h : n ≤ 1000000) : n ≤ sizeLine := by rw [sizeLine_eq]; omega
theorem szl {n : Nat} (h : n ≤ 1000000) : n < sizeLine := by rw [sizeLine_eq]; omega

theorem e_abc : ("abc" : Str) = st [97, 98, 99] := by decide +kernel
theorem e_pt : ("." : Str) = st [46] := by decide +kernel
theorem e_empty : ("" : Str) = st [] := by decide +kernel
def DIG : List Nat := [48, 49, 50, 51, 52, 53, 54, 55, 56, 57]
theorem e_dig : ("0123456789" : Str) = st DIG := by decide +kernel
def LET : List Nat := (List.range 26).map (97 + ·)
theorem e_let : ("abcdefghijklmnopqrstuvwxyz" : Str) = st LET := by decide +kernel
abbrev abc (l : List Nat) : Prop := ∀ c ∈ l, 97 ≤ c ∧ c ≤ 99
theorem strs_signs : ∀ l : List Nat, strs? (l.map fun c => PV.str (st [c])) = some (l.map fun c => st [c])
  | [] => rfl
  | c :: l => by simp [strs?, strs_signs l]
theorem join_signs : ∀ l : List Nat, Str.join (st []) (l.map fun c => st [c]) = st l
  | [] => rfl
  | [c] => rfl
  | c :: d :: l => by
    have := join_signs (d :: l)
    simp only [List.map_cons] at this ⊢
    show st [c] ++ st [] ++ Str.join (st []) (st [d] :: l.map fun c => st [c]) = _
    rw [this]
    simp
theorem sum_signs : ∀ l : List Nat, (l.map ((fun x : Str => x.length) ∘ fun c => st [c])).sum = l.length
  | [] => rfl
  | c :: l => by
    have := sum_signs l
    simp only [List.map_cons, List.sum_cons, List.length_cons, Function.comp, st_len] at this ⊢
    rw [this]; simp; omega
theorem g_join {l : List Nat} (h : l.length ≤ 1000) : gJoin (.str (st [])) (.lst (l.map fun c => PV.str (st [c]))) = some (.str (st l)) := by
  simp only [gJoin, strs_signs, Option.bind_some, List.map_map, sum_signs]
  rw [if_pos (by simp; omega)]
  rw [TL.join_eq]
  exact congrArg (fun z => some (PV.str z)) (join_signs l)
theorem word_elt {ds : List Int} {m x : PV} : ∃ c ds', 97 ≤ c ∧ c ≤ 99 ∧ E__law_word_1 [.io (dk ds), .sh m, .sh x] = .ok (.str (st [c])) [.io (dk ds'), .sh m, .sh x] := by
  have h := tk_lt (ds := ds) (m := 3) (by omega)
  obtain ⟨v, hv⟩ := Int.eq_ofNat_of_zero_le h.1
  rw [hv] at h
  have h3 : v < 3 := by omega
  have e : E__law_word_1 [.io (dk ds), .sh m, .sh x] = opt (gIx (.str (st [97, 98, 99])) (.int (v : Int))) [.io (dk (tk ds 3).2), .sh m, .sh x] := by
    rw [← hv]
    simp [E__law_word_1, F_take_eq, e_abc]
  rw [e, ap_ixSt, if_pos (by simp [sizeLine_eq]), atI_nat (by simpa using h3)]
  refine ⟨[97, 98, 99][v], (tk ds 3).2, ?_, ?_, rfl⟩
  · rcases (show v = 0 ∨ v = 1 ∨ v = 2 by omega) with rfl | rfl | rfl <;> simp
  · rcases (show v = 0 ∨ v = 1 ∨ v = 2 by omega) with rfl | rfl | rfl <;> simp
theorem F_word_eq {ds : List Int} {m : Nat} (h : 0 < m) (hm : m ≤ 100) : ∃ l ds', abc l ∧ 1 ≤ l.length ∧ l.length ≤ m ∧ F__law_word [dk ds, .int m] = .ok (.str (st l)) (dk ds') := by
  have h1 := tk_lt (ds := ds) (m := m) (by omega)
  obtain ⟨v, hv⟩ := Int.eq_ofNat_of_zero_le h1.1
  rw [hv] at h1
  obtain ⟨n, hn⟩ : ∃ n : Nat, n = 1 + v := ⟨_, rfl⟩
  obtain ⟨ys, ρ, h2, l, ds', h3, h4, h5, h6⟩ := lcLoop_inv (own := [2]) (tgt := gName 2) (test := bYes) (elt := E__law_word_1) (items := rangeP 0 n)
    (fun i ys ρ => ∃ l ds', abc l ∧ l.length = i ∧ ys = l.map (fun c => PV.str (st [c])) ∧ ρ = [.io (dk ds'), .sh (.int m), .un])
    (fun i x ys ρ hx hi => by
      obtain ⟨_, rfl⟩ := rangeP_get hx
      obtain ⟨l, ds', h3, h4, h5, rfl⟩ := hi
      obtain ⟨c, ds2, h6, h7, h8⟩ := word_elt (ds := ds') (m := .int m) (x := .int (0 + (i : Int)))
      refine ⟨_, rfl, .inl ⟨_, _, _, rfl, h8, rfl, l ++ [c], ds2, ?_, ?_, ?_, rfl⟩⟩
      · intro d hd
        rcases List.mem_append.mp hd with hd | hd
        · exact h3 d hd
        · rw [List.mem_singleton.mp hd]; exact ⟨h6, h7⟩
      · rw [List.length_append, h4]; rfl
      · rw [h5, List.map_append]; rfl)
    (ρ0 := [.io (dk (tk ds m).2), .sh (.int m), .un]) (ys0 := []) ⟨[], _, (fun _ h => nomatch h), rfl, rfl, rfl⟩
  rw [List.nil_append] at h5
  rw [rangeP_len] at h4
  refine ⟨l, ds', h3, by omega, by omega, ?_⟩
  have e1 : (1 + (v : Int)) = (n : Int) := by omega
  have e2 : F_take [dk ds, .int (m : Int)] = .ok (.int (v : Int)) (dk (tk ds m).2) := by rw [F_take_eq (by omega), hv]
  have e3 : l.length ≤ 1000000 := by omega
  simp [F__law_word, runD, den__law_word, argSl, e2, List.replicate, e_empty, e1, rg1_nat (show n ≤ 1000000000 by omega), lockE, Sl.lock, h2, h6, h5, e3, backE, List.range, List.range.loop, Sl.back, clean, g_join (show l.length ≤ 1000 by omega), fin0, io0]
/-! ### patterns: their text, their letters, their digits -/
abbrev sg (c : Nat) : Prop := c = 46 ∨ (97 ≤ c ∧ c ≤ 99)
inductive Enc : List Nat → List Int → List Nat → Prop
  | last0 : Enc [] [0] []
  | last (d : Nat) : d ≤ 3 → Enc [] [(d : Int)] [48 + d]
  | cons0 {c : Nat} {s : List Nat} {dg : List Int} {t : List Nat} : sg c → Enc s dg t → Enc (c :: s) (0 :: dg) (c :: t)
  | cons {c : Nat} {s : List Nat} {dg : List Int} {t : List Nat} (d : Nat) : d ≤ 3 → sg c → Enc s dg t → Enc (c :: s) ((d : Int) :: dg) ((48 + d) :: c :: t)
def pE (pat : PV) (S0 : List Nat) (D : List Int) (bf : List Nat) (s4 s5 : Sl) : Env := [.sh pat, .sh (.str (st S0)), .ow (.lst (D.map .int)), .sh (.str (st bf)), s4, s5]
theorem in_st {neg : Bool} {c : Nat} {l : List Nat} : gIn neg (.str (st [c])) (.str (st l)) = some (.bl (if neg then !decide (c ∈ l) else decide (c ∈ l))) := rfl
theorem int_dig {d : Nat} (h : d ≤ 3) : gInt [.str (st [48 + d])] = some (.int d) := by
  have h0 : PySem.intText? (st [48]) = some 0 := by decide +kernel
  have h1 : PySem.intText? (st [49]) = some 1 := by decide +kernel
  have h2 : PySem.intText? (st [50]) = some 2 := by decide +kernel
  have h3 : PySem.intText? (st [51]) = some 3 := by decide +kernel
  rcases (show d = 0 ∨ d = 1 ∨ d = 2 ∨ d = 3 by omega) with rfl | rfl | rfl | rfl <;> simp [gInt, h0, h1, h2, h3]
theorem in_dig {d : Nat} (h : d ≤ 3) : gIn false (.str (st [48 + d])) (.str (st DIG)) = some (.bl true) := by
  rw [in_st]
  have h1 : (48 + d) ∈ DIG := by simp [DIG]; omega
  simp [h1]
theorem in_dig0 {c : Nat} (h : sg c) : gIn false (.str (st [c])) (.str (st DIG)) = some (.bl false) := by
  rw [in_st]
  have h1 : ¬ c ∈ DIG := by simp [DIG]; omega
  simp [h1]
theorem part_sign {pat : PV} {S0 : List Nat} {D : List Int} {bf : List Nat} {s4 s5 : Sl} {c : Nat} (hc : sg c) (hS : S0.length ≤ 1000) (hD : D.length ≤ 1000) :
    B_parts_of_1 (pE pat S0 D bf (.sh (.str (st [c]))) s5) = .nx (pE pat (S0 ++ [c]) (D ++ [0]) [c] (.sh (.str (st [c]))) s5) := by
  have h2 : S0.length + 1 ≤ sizeLine := by rw [sizeLine_eq]; omega
  have h3 : D.length < sizeLine := by rw [sizeLine_eq]; omega
  simp [B_parts_of_1, pE, c_DIGITS, e_dig, in_dig0 hc, h2, h3]
theorem part_digit {pat : PV} {S0 : List Nat} {D : List Int} {bf : List Nat} {s4 s5 : Sl} {d : Nat} {x : Int} (hd : d ≤ 3) (hb : bf = [] ∨ ∃ c, bf = [c] ∧ sg c) :
    B_parts_of_1 (pE pat S0 (D ++ [x]) bf (.sh (.str (st [48 + d]))) s5) = .nx (pE pat S0 (D ++ [(d : Int)]) [48 + d] (.sh (.str (st [48 + d]))) s5) := by
  have h4 : ixN (D.length + 1) (-1) = some D.length := by
    unfold ixN
    rw [if_neg (by omega), if_pos (by omega)]
    congr 1
    omega
  have h5 : (D.map PV.int ++ [PV.int x]).set D.length (PV.int d) = D.map PV.int ++ [PV.int d] := by
    rw [List.set_append_right _ _ (by simp)]
    simp
  have h6 : (0 : Nat) ≤ sizeLine := Nat.zero_le _
  have h7 : (1 : Nat) ≤ sizeLine := by rw [sizeLine_eq]; omega
  rcases hb with rfl | ⟨c, rfl, hc⟩
  · simp [B_parts_of_1, pE, c_DIGITS, e_dig, in_dig hd, int_dig hd, h4, h5, truth, h6]
  · simp [B_parts_of_1, pE, c_DIGITS, e_dig, in_dig hd, in_dig0 hc, int_dig hd, h4, h5, truth, h7]
theorem parts_loop {pat : PV} {s5 : Sl} {s : List Nat} {dg : List Int} {t : List Nat} (h : Enc s dg t) : ∀ (S0 : List Nat) (D0 : List Int) (bf : List Nat) (s4 : Sl), (bf = [] ∨ ∃ c, bf = [c] ∧ sg c) → S0.length + s.length ≤ 1000 → D0.length + s.length ≤ 900 →
    ∃ bf' s4', dLoop (gName 4) B_parts_of_1 (t.map fun c => .str (st [c])) (pE pat S0 (D0 ++ [0]) bf s4 s5) = .nx (pE pat (S0 ++ s) (D0 ++ dg) bf' s4' s5) := by
  induction h with
  | last0 => intro S0 D0 bf s4 hb _ _; exact ⟨bf, s4, by simp [dLoop]⟩
  | last d hd =>
    intro S0 D0 bf s4 hb _ _
    refine ⟨[48 + d], .sh (.str (st [48 + d])), ?_⟩
    have e := part_digit (pat := pat) (S0 := S0) (D := D0) (bf := bf) (s4 := s4) (s5 := s5) (x := 0) hd hb
    simp only [List.map_cons, List.map_nil, dLoop, ap_gName]
    rw [show (pE pat S0 (D0 ++ [0]) bf s4 s5).set 4 (.sh (.str (st [48 + d]))) = pE pat S0 (D0 ++ [0]) bf (.sh (.str (st [48 + d]))) s5 from rfl, e]
    simp only [List.append_nil]
  | @cons0 c s dg t hc _ ih =>
    intro S0 D0 bf s4 hb h1 h2
    rw [List.length_cons] at h1 h2
    obtain ⟨bf', s4', e⟩ := ih (S0 ++ [c]) (D0 ++ [0]) [c] (.sh (.str (st [c]))) (.inr ⟨c, rfl, hc⟩) (by rw [List.length_append, List.length_singleton]; omega) (by rw [List.length_append, List.length_singleton]; omega)
    refine ⟨bf', s4', ?_⟩
    simp only [List.map_cons, dLoop, ap_gName]
    rw [show (pE pat S0 (D0 ++ [0]) bf s4 s5).set 4 (.sh (.str (st [c]))) = pE pat S0 (D0 ++ [0]) bf (.sh (.str (st [c]))) s5 from rfl, part_sign (s4 := s4) hc (by omega) (by rw [List.length_append, List.length_singleton]; omega)]
    simp only
    rw [e, List.append_assoc, List.append_assoc]
    rfl
  | @cons c s dg t d hd hc _ ih =>
    intro S0 D0 bf s4 hb h1 h2
    rw [List.length_cons] at h1 h2
    obtain ⟨bf', s4', e⟩ := ih (S0 ++ [c]) (D0 ++ [(d : Int)]) [c] (.sh (.str (st [c]))) (.inr ⟨c, rfl, hc⟩) (by rw [List.length_append, List.length_singleton]; omega) (by rw [List.length_append, List.length_singleton]; omega)
    refine ⟨bf', s4', ?_⟩
    simp only [List.map_cons, dLoop, ap_gName]
    rw [show (pE pat S0 (D0 ++ [0]) bf s4 s5).set 4 (.sh (.str (st [48 + d]))) = pE pat S0 (D0 ++ [0]) bf (.sh (.str (st [48 + d]))) s5 from rfl, part_digit (s4 := s4) hd hb]
    simp only
    rw [show (pE pat S0 (D0 ++ [(d : Int)]) [48 + d] (.sh (.str (st [48 + d]))) s5).set 4 (.sh (.str (st [c]))) = pE pat S0 (D0 ++ [(d : Int)]) [48 + d] (.sh (.str (st [c]))) s5 from rfl, part_sign (s4 := s4) hc (by omega) (by rw [List.length_append, List.length_singleton]; omega)]
    simp only
    rw [e, List.append_assoc, List.append_assoc]
    rfl
theorem cut_last {α : Type} (l : List α) (c : α) : cutP (l ++ [c]) (some (-1)) none = [c] := by
  unfold cutP
  have h : HT.sIx (l ++ [c]).length 0 (some (-1)) = l.length := by
    show (if (-1 : Int) < 0 then ((-1 : Int) + ((l ++ [c]).length : Int)).toNat else min (-1 : Int).toNat (l ++ [c]).length) = _
    rw [if_pos (by omega), List.length_append, List.length_singleton]
    omega
  rw [h, HT.sIx_none, List.drop_left]
  simp
theorem cut_init {α : Type} (l : List α) (c : α) : cutP (l ++ [c]) none (some (-1)) = l := by
  unfold cutP
  have h : HT.sIx (l ++ [c]).length (l ++ [c]).length (some (-1)) = l.length := by
    show (if (-1 : Int) < 0 then ((-1 : Int) + ((l ++ [c]).length : Int)).toNat else min (-1 : Int).toNat (l ++ [c]).length) = _
    rw [if_pos (by omega), List.length_append, List.length_singleton]
    omega
  rw [h, HT.sIx_none, List.drop_zero, Nat.sub_zero, List.take_left]
theorem asc_abc {l : List Nat} (h : abc l) : asc l := fun c hc => by have := h c hc; omega
theorem asc_sg {l : List Nat} (h : ∀ c ∈ l, sg c) : asc l := fun c hc => by have := h c hc; omega
/-- the letters in a pattern's signs -/
structure Shp (s l : List Nat) : Prop where
  sh : s = l ∨ s = 46 :: l ∨ s = l ++ [46] ∨ s = 46 :: (l ++ [46])
  let_ : abc l
  ne : l ≠ []
  len : l.length ≤ 100
theorem Shp.sgs {s l : List Nat} (h : Shp s l) : ∀ c ∈ s, sg c := by
  intro c hc
  have hl : ∀ c ∈ l, sg c := fun c hc => .inr (h.let_ c hc)
  rcases h.sh with rfl | rfl | rfl | rfl
  · exact hl c hc
  · rcases List.mem_cons.mp hc with e | e
    · exact .inl e
    · exact hl c e
  · rcases List.mem_append.mp hc with e | e
    · exact hl c e
    · exact .inl (List.mem_singleton.mp e)
  · rcases List.mem_cons.mp hc with e | e
    · exact .inl e
    · rcases List.mem_append.mp e with e | e
      · exact hl c e
      · exact .inl (List.mem_singleton.mp e)
theorem Shp.slen {s l : List Nat} (h : Shp s l) : s.length ≤ 102 := by
  have := h.len
  rcases h.sh with rfl | rfl | rfl | rfl <;> simp <;> omega
/-- what the first, the last sign is cut off by -/
theorem cut_head {s l : List Nat} (h : Shp s l) : ∃ u, (u = l ∨ u = l ++ [46]) ∧ (if (s.take 1) = [46] then s.drop 1 else s) = u := by
  have hne := h.ne
  have hl := h.let_
  cases l with
  | nil => exact absurd rfl hne
  | cons a l =>
    have ha := hl a List.mem_cons_self
    rcases h.sh with rfl | rfl | rfl | rfl
    · exact ⟨_, .inl rfl, by simp; omega⟩
    · exact ⟨_, .inl rfl, by simp⟩
    · exact ⟨_, .inr rfl, by simp; omega⟩
    · exact ⟨_, .inr rfl, by simp⟩
theorem cut_tail {u l : List Nat} (hl : abc l) (hne : l ≠ []) (h : u = l ∨ u = l ++ [46]) : (if cutP u (some (-1)) none = [46] then cutP u none (some (-1)) else u) = l := by
  rcases h with rfl | rfl
  · obtain ⟨v, a, rfl⟩ : ∃ v a, u = v ++ [a] := ⟨u.dropLast, u.getLast hne, (List.dropLast_concat_getLast hne).symm⟩
    have ha := hl a (by simp)
    rw [cut_last, if_neg]
    intro z
    have : a = 46 := by simpa using z
    omega
  · rw [cut_last, cut_init, if_pos rfl]
theorem letters_lc {own : List Nat} {l : List Nat} (h : abc l) (E : Den) (T : DenB) (tg : DenG) (ρ : Env) (hT : ∀ c ∈ l, ∃ ρ1 ρ2, tg (.str (st [c])) ρ = some ρ1 ∧ T ρ1 = .ok false ρ2 ∧ noOw ρ2 = true ∧ wipeE own ρ2 = ρ) : lcLoop own tg T E (l.map fun c => .str (st [c])) ρ = some ([], ρ) := by
  induction l with
  | nil => rfl
  | cons c l ih =>
    obtain ⟨ρ1, ρ2, h1, h2, h3, h4⟩ := hT c List.mem_cons_self
    simp only [List.map_cons, lcLoop, h1, h2, h3, if_true, h4]
    exact ih (fun d hd => h d (List.mem_cons_of_mem _ hd)) fun d hd => hT d (List.mem_cons_of_mem _ hd)
theorem in_let {c : Nat} (h : 97 ≤ c ∧ c ≤ 99) : gIn true (.str (st [c])) (.str (st LET)) = some (.bl false) := by
  rw [in_st]
  have h1 : c ∈ LET := List.mem_map.mpr ⟨c - 97, List.mem_range.mpr (by omega), by omega⟩
  simp [h1]
theorem F_parts_eq {s l : List Nat} {dg : List Int} {t : List Nat} (h : Enc s dg t) (hs : Shp s l) : F_parts_of [.str (st t)] = .ok (.tup [.str (st s), .lst (dg.map .int)]) .non := by
  have hlen := hs.slen
  obtain ⟨bf, s4, h1⟩ := parts_loop (pat := .str (st t)) (s5 := .un) h [] [] [] .un (.inl rfl) (by simp; omega) (by simp; omega)
  obtain ⟨u, hu, hu2⟩ := cut_head hs
  have h2 : s.length ≤ sizeLine := by rw [sizeLine_eq]; omega
  have hul : u.length ≤ sizeLine := by
    have h0 := hs.len
    rw [sizeLine_eq]
    rcases hu with e | e <;> rw [e] <;> first | omega | (simp; omega)
  have hll : l.length ≤ sizeLine := by rw [sizeLine_eq]; have := hs.len; omega
  have asS : asc (s.take 1) := fun c hc => asc_sg hs.sgs c (List.mem_of_mem_take hc)
  have asU : asc u := by
    rcases hu with rfl | rfl
    · exact asc_abc hs.let_
    · intro c hc
      rcases List.mem_append.mp hc with e | e
      · exact asc_abc hs.let_ c e
      · rw [List.mem_singleton.mp e]; omega
  have asU1 : asc (cutP u (some (-1)) none) := fun c hc => asU c (by unfold cutP at hc; exact List.mem_of_mem_drop (List.mem_of_mem_take hc))
  have as46 : asc [46] := by intro c hc; rw [List.mem_singleton.mp hc]; omega
  have e1 : cutP s none (some (1 : Int)) = s.take 1 := cutP_hi s 1
  have e2 : cutP s (some (1 : Int)) none = s.drop 1 := cutP_lo s 1
  let pt : PV := .str (st t)
  let E1 : Env := [.sh pt, .sh (.str (st s)), .ow (.lst (dg.map .int)), .sh (.str (st bf)), s4, .un]
  have L1 : sFor (iSeq (dVar 0)) (gName 4) B_parts_of_1 (pE pt [] [0] [] .un .un) = .nx E1 := by
    have : sFor (iSeq (dVar 0)) (gName 4) B_parts_of_1 (pE pt [] [0] [] .un .un) = dLoop (gName 4) B_parts_of_1 (t.map fun c => .str (st [c])) (pE pt [] ([] ++ [0]) [] .un .un) := by simp [pE, pt]
    rw [this, h1]; rfl
  have L2 : sSet 5 (dIf (bVal (d2 gEq (dSl gSl (dVar 1) oNone (oSome (dC (.int 1)))) (dC (.str ("." : Str))))) (dSl gSl (dVar 1) (oSome (dC (.int 1))) oNone) (dVar 1)) E1 = .nx [.sh pt, .sh (.str (st s)), .ow (.lst (dg.map .int)), .sh (.str (st bf)), s4, .sh (.str (st u))] := by
    rw [← hu2]
    by_cases hc : s.take 1 = [46]
    · simp [E1, h2, e1, e2, e_pt, ap_eqS asS as46, ap_eqS as46 as46, hc]
    · simp [E1, h2, e1, e2, e_pt, ap_eqS asS as46, ap_eqS as46 as46, hc]
  have L3 : sSet 5 (dIf (bVal (d2 gEq (dSl gSl (dVar 5) (oSome (dNeg (dC (.int 1)))) oNone) (dC (.str ("." : Str))))) (dSl gSl (dVar 5) oNone (oSome (dNeg (dC (.int 1))))) (dVar 5)) [.sh pt, .sh (.str (st s)), .ow (.lst (dg.map .int)), .sh (.str (st bf)), s4, .sh (.str (st u))] = .nx [.sh pt, .sh (.str (st s)), .ow (.lst (dg.map .int)), .sh (.str (st bf)), s4, .sh (.str (st l))] := by
    rw [← cut_tail hs.let_ hs.ne hu]
    by_cases hc : cutP u (some (-1)) none = [46]
    · simp [hul, e_pt, ap_eqS asU1 as46, ap_eqS as46 as46, hc]
    · simp [hul, e_pt, ap_eqS asU1 as46, ap_eqS as46 as46, hc]
  have L4 : sIf (bOr (bNot (bTruV 5)) (bTru (dLc ([(("sign" : Str), 4)].map (·.2)) (iSeq (dVar 5)) (gName 4) T_parts_of_2 E_parts_of_2))) (sRet (dC .non)) sNx [.sh pt, .sh (.str (st s)), .ow (.lst (dg.map .int)), .sh (.str (st bf)), s4, .sh (.str (st l))] = .nx [.sh pt, .sh (.str (st s)), .ow (.lst (dg.map .int)), .sh (.str (st bf)), clean s4, .sh (.str (st l))] := by
    have hl0 : ¬ (l.length = 0) := by have := hs.ne; cases l; · exact absurd rfl this
                                      · simp
    have hlc := letters_lc (own := [4]) hs.let_ E_parts_of_2 T_parts_of_2 (gName 4) [.sh pt, .sh (.str (st s)), .io (.lst (dg.map .int)), .sh (.str (st bf)), .un, .sh (.str (st l))] (fun c hc => ⟨_, [.sh pt, .sh (.str (st s)), .io (.lst (dg.map .int)), .sh (.str (st bf)), .sh (.str (st [c])), .sh (.str (st l))], rfl, by simp [T_parts_of_2, c_LETTERS, e_let, in_let (hs.let_ c hc)], rfl, rfl⟩)
    simp [truth, hll, hl0, lockE, Sl.lock, hlc, backE, List.range, List.range.loop, Sl.back]
  have L5 : sRet (dTup (dCons (dVar 1) (dCons (dVar 2) dNil))) [.sh pt, .sh (.str (st s)), .ow (.lst (dg.map .int)), .sh (.str (st bf)), clean s4, .sh (.str (st l))] = .rt (.tup [.str (st s), .lst (dg.map .int)]) [.sh pt, .sh (.str (st s)), .sh (.lst (dg.map .int)), .sh (.str (st bf)), clean s4, .sh (.str (st l))] := by
    have h3 : (2 : Nat) ≤ sizeLine := by rw [sizeLine_eq]; omega
    simp [h3]
  have L6 : den_parts_of [.sh pt, .un, .un, .un, .un, .un] = .rt (.tup [.str (st s), .lst (dg.map .int)]) [.sh pt, .sh (.str (st s)), .sh (.lst (dg.map .int)), .sh (.str (st bf)), clean s4, .sh (.str (st l))] := by
    unfold den_parts_of
    rw [seq_nx (ρ1 := [.sh pt, .sh (.str (st [])), .un, .un, .un, .un]) (by simp [e_empty]),
      seq_nx (ρ1 := [.sh pt, .sh (.str (st [])), .ow (.lst [.int 0]), .un, .un, .un]) (by simp [szn (n := 1) (by omega)]),
      seq_nx (ρ1 := pE pt [] [0] [] .un .un) (by simp [e_empty, pE]), seq_nx L1, seq_nx L2, seq_nx L3, seq_nx L4, L5]
  simp only [F_parts_of, runD, argSl, List.map_cons, List.map_nil, List.length_cons, List.length_nil]
  show (match den_parts_of [.sh pt, .un, .un, .un, .un, .un] with | .rt p ρ => fin0 false p ρ | .nx ρ => if false = true then FR.bad else fin0 false .non ρ | .exc x _ => .exc x | _ => .bad) = _
  rw [L6]
  rfl
/-! ### drawn patterns -/
theorem tk_nat {ds : List Int} {m : Nat} (h : 0 < m) : ∃ v : Nat, v < m ∧ (tk ds m).1 = (v : Int) := by
  have h1 := tk_lt (ds := ds) (m := m) (by omega)
  obtain ⟨v, hv⟩ := Int.eq_ofNat_of_zero_le h1.1
  exact ⟨v, by omega, hv⟩
theorem F_take_nat (ds : List Int) (m : Nat) (h : 0 < m) : ∃ (v : Nat) (ds' : List Int), v < m ∧ F_take [dk ds, .int (m : Int)] = .ok (.int (v : Int)) (dk ds') := by
  obtain ⟨v, h1, h2⟩ := tk_nat (ds := ds) h
  exact ⟨v, _, h1, by rw [F_take_eq (by omega), h2]⟩
def aE (ds : List Int) (s : List Nat) (dn : List Nat) (t : List Nat) (s4 : Sl) : Env := [.io (dk ds), .sh (.str (st s)), .sh (.lst (dn.map fun (d : Nat) => PV.int (d : Int))), .sh (.str (st t)), s4]
theorem pat_elt {ds : List Int} {a b : Sl} {x : Sl} : ∃ (d : Nat) (ds' : List Int), d ≤ 3 ∧ E__law_pattern_1 [.io (dk ds), a, b, .un, x] = .ok (.int (d : Int)) [.io (dk ds'), a, b, .un, x] := by
  obtain ⟨v, ds1, h1, e1⟩ := F_take_nat ds 4 (by omega)
  obtain ⟨u, ds2, h2, e2⟩ := F_take_nat ds1 2 (by omega)
  refine ⟨v * u, ds2, ?_, ?_⟩
  · rcases (show u = 0 ∨ u = 1 by omega) with rfl | rfl <;> omega
  · have h3 : smallI (v : Int) = true := by simp [smallI]; omega
    have e1 : F_take [dk ds, .int 4] = .ok (.int (v : Int)) (dk ds1) := e1
    have e2 : F_take [dk ds1, .int 2] = .ok (.int (u : Int)) (dk ds2) := e2
    simp [E__law_pattern_1, e1, e2, h3]
theorem ix_dig {d : Nat} (h : d ≤ 3) : gIx (.str (st DIG)) (.int (d : Int)) = some (.str (st [48 + d])) := by
  rw [ap_ixSt, if_pos (szn (by decide)), atI_nat (by simp [DIG]; omega)]
  rcases (show d = 0 ∨ d = 1 ∨ d = 2 ∨ d = 3 by omega) with rfl | rfl | rfl | rfl <;> rfl
theorem ix_st {l : List Nat} {i : Nat} (h : i < l.length) (hl : l.length ≤ 1000000) : gIx (.str (st l)) (.int (i : Int)) = some (.str (st [l[i]])) := by
  rw [ap_ixSt, if_pos (szn hl), atI_nat h]; rfl
theorem ix_ints {dn : List Nat} {i : Nat} (h : i < dn.length) : gIx (.lst (dn.map fun (d : Nat) => PV.int (d : Int))) (.int (i : Int)) = some (.int (dn[i] : Int)) := by
  rw [ap_ixL, atI_nat (by simpa using h), List.getElem_map]
theorem pat_body {ds : List Int} {s dn t : List Nat} {i : Nat} (hi : i < dn.length) (hd : dn.length = s.length + 1) (h3 : ∀ d ∈ dn, d ≤ 3) (ht : t.length ≤ 10000) (hs : s.length ≤ 1000) :
    ∃ (ds' : List Int) (wr : Bool), (wr = false → dn[i] = 0) ∧ B__law_pattern_2 (aE ds s dn t (.sh (.int (i : Int)))) = .nx (aE ds' s dn (t ++ (if wr then [48 + dn[i]] else []) ++ (if h : i < s.length then [s[i]] else [])) (.sh (.int (i : Int)))) := by
  have hdi : dn[i] ≤ 3 := h3 _ (List.getElem_mem hi)
  have L1 : ∃ (ds' : List Int) (wr : Bool), (wr = false → dn[i] = 0) ∧ sIf (bOr (bVal (d2 gGt (d2 gIx (dVar 2) (dVar 4)) (dC (.int 0)))) (bVal (d2 gEq (dCallIo F__law_take 0 (dCons (dC (.int 6)) dNil)) (dC (.int 0))))) (sSet 3 (dAdd (dVar 3) (d2 gIx (dC (.str ("0123456789" : Str))) (d2 gIx (dVar 2) (dVar 4))))) sNx (aE ds s dn t (.sh (.int (i : Int)))) = .nx (aE ds' s dn (t ++ (if wr then [48 + dn[i]] else [])) (.sh (.int (i : Int)))) := by
    have hl : t.length + 1 ≤ sizeLine := szn (by omega)
    by_cases hp : 0 < dn[i]
    · refine ⟨ds, true, (fun z => by cases z), ?_⟩
      have hp' : (0 : Int) < (dn[i] : Int) := by omega
      simp [aE, ix_ints hi, hp, e_dig, ix_dig hdi, hl]
    · obtain ⟨v, ds1, h1, e1⟩ := F_take_nat ds 6 (by omega)
      have e1 : F_take [dk ds, .int 6] = .ok (.int (v : Int)) (dk ds1) := e1
      have h0 : dn[i] = 0 := by omega
      by_cases hv : v = 0
      · refine ⟨ds1, true, (fun z => by cases z), ?_⟩
        have e3 : gIx (.str (st DIG)) (.int 0) = some (.str (st [48])) := ix_dig (d := 0) (by omega)
        simp [aE, ix_ints hi, e_dig, hl, e1, hv, h0, e3, -ap_ixSt]
      · refine ⟨ds1, false, (fun _ => h0), ?_⟩
        simp [aE, ix_ints hi, hp, e_dig, hl, e1, hv, h0]
  obtain ⟨ds', wr, h1, h2⟩ := L1
  refine ⟨ds', wr, h1, ?_⟩
  unfold B__law_pattern_2
  rw [seq_nx h2]
  have hl : (t ++ (if wr = true then [48 + dn[i]] else [])).length + 1 ≤ sizeLine := by
    refine szn ?_
    rw [List.length_append]
    cases wr <;> simp <;> omega
  generalize t ++ (if wr = true then [48 + dn[i]] else []) = t2 at *
  have hs2 : s.length ≤ sizeLine := szn (by omega)
  by_cases h : i < s.length
  · simp [aE, h, hs2, ix_st h (by omega), hl]
  · simp [aE, h, hs2]
theorem drop_cons {α : Type} {l : List α} {i : Nat} (h : i < l.length) : l.drop i = l[i] :: l.drop (i + 1) := List.drop_eq_getElem_cons h
theorem enc_step {s dn t : List Nat} {i : Nat} (hi : i < dn.length) (hd : dn.length = s.length + 1) (h3 : ∀ d ∈ dn, d ≤ 3) (hs : ∀ c ∈ s, sg c) {wr : Bool} (hw : wr = false → dn[i] = 0)
    (h : ∀ t', Enc (s.drop i) ((dn.drop i).map fun (d : Nat) => (d : Int)) t' → Enc s (dn.map fun (d : Nat) => (d : Int)) (t ++ t')) :
    (∀ t', i < s.length → Enc (s.drop (i + 1)) ((dn.drop (i + 1)).map fun (d : Nat) => (d : Int)) t' → Enc s (dn.map fun (d : Nat) => (d : Int)) ((t ++ (if wr then [48 + dn[i]] else []) ++ (if h : i < s.length then [s[i]] else [])) ++ t')) ∧
    (i = s.length → Enc s (dn.map fun (d : Nat) => (d : Int)) (t ++ (if wr then [48 + dn[i]] else []) ++ (if h : i < s.length then [s[i]] else []))) := by
  have hdi : dn[i] ≤ 3 := h3 _ (List.getElem_mem hi)
  refine ⟨fun t' hlt he => ?_, fun e => ?_⟩
  · rw [dif_pos hlt, List.append_assoc, List.append_assoc]
    refine h _ ?_
    rw [drop_cons hlt, drop_cons hi, List.map_cons]
    have hc := hs _ (List.getElem_mem hlt)
    cases wr with
    | false =>
      rw [hw rfl]
      exact .cons0 hc he
    | true => exact .cons dn[i] hdi hc he
  · subst e
    rw [dif_neg (by omega), List.append_nil]
    refine h _ ?_
    rw [List.drop_length, drop_cons hi, List.drop_of_length_le (by omega)]
    cases wr with
    | false =>
      have := hw rfl
      simp only [List.map_cons, List.map_nil, this]
      exact .last0
    | true => exact .last _ hdi
theorem F_pattern_eq (ds : List Int) : ∃ (s l dn t : List Nat) (ds' : List Int), Enc s (dn.map fun (d : Nat) => (d : Int)) t ∧ Shp s l ∧ l.length ≤ 3 ∧ dn.length = s.length + 1 ∧ t.length ≤ 100 ∧ F__law_pattern [dk ds] = .ok (.tup [.str (st t), .str (st s), .lst (dn.map fun (d : Nat) => PV.int (d : Int))]) (dk ds') := by
  obtain ⟨l, ds1, h1, h2, h3, e1⟩ := F_word_eq (ds := ds) (m := 3) (by omega) (by omega)
  have e1 : F__law_word [dk ds, .int 3] = .ok (.str (st l)) (dk ds1) := e1
  -- points
  obtain ⟨v, ds2, hv, e2⟩ := F_take_nat ds1 5 (by omega)
  have e2 : F_take [dk ds1, .int 5] = .ok (.int (v : Int)) (dk ds2) := e2
  obtain ⟨u, ds3, hu, e3⟩ := F_take_nat ds2 5 (by omega)
  have e3 : F_take [dk ds2, .int 5] = .ok (.int (u : Int)) (dk ds3) := e3
  have S1 : sSet 1 (dCallIo F__law_word 0 (dCons (dC (.int 3)) dNil)) [.io (dk ds), .un, .un, .un, .un] = .nx [.io (dk ds1), .sh (.str (st l)), .un, .un, .un] := by simp [e1]
  obtain ⟨s1, hs1, S2⟩ : ∃ s1, (s1 = l ∨ s1 = 46 :: l) ∧ sIf (bVal (d2 gEq (dCallIo F__law_take 0 (dCons (dC (.int 5)) dNil)) (dC (.int 0)))) (sSet 1 (dAdd (dC (.str ("." : Str))) (dVar 1))) sNx [.io (dk ds1), .sh (.str (st l)), .un, .un, .un] = .nx [.io (dk ds2), .sh (.str (st s1)), .un, .un, .un] := by
    by_cases hz : v = 0
    · exact ⟨46 :: l, .inr rfl, by simp [e2, hz, e_pt, szn (show 1 + l.length ≤ 1000000 by omega)]⟩
    · exact ⟨l, .inl rfl, by simp [e2, hz]⟩
  have hs1l : s1.length ≤ 10 := by rcases hs1 with e | e <;> rw [e] <;> first | omega | (simp; omega)
  obtain ⟨s, hs, S3⟩ : ∃ s, (s = s1 ∨ s = s1 ++ [46]) ∧ sIf (bVal (d2 gEq (dCallIo F__law_take 0 (dCons (dC (.int 5)) dNil)) (dC (.int 0)))) (sSet 1 (dAdd (dVar 1) (dC (.str ("." : Str))))) sNx [.io (dk ds2), .sh (.str (st s1)), .un, .un, .un] = .nx [.io (dk ds3), .sh (.str (st s)), .un, .un, .un] := by
    by_cases hz : u = 0
    · exact ⟨s1 ++ [46], .inr rfl, by simp [e3, hz, e_pt, szn (show s1.length + 1 ≤ 1000000 by omega)]⟩
    · exact ⟨s1, .inl rfl, by simp [e3, hz]⟩
  have shp : Shp s l := ⟨by rcases hs1 with rfl | rfl <;> rcases hs with rfl | rfl <;> simp, h1, by intro z; rw [z] at h2; simp at h2, by omega⟩
  have hsl : s.length ≤ 20 := by rcases hs with e | e <;> rw [e] <;> first | omega | (simp; omega)
  -- digits
  obtain ⟨ys, ρ, h4, dn, ds4, h5, h6, h7, h8⟩ := lcLoop_inv (own := [4]) (tgt := gName 4) (test := bYes) (elt := E__law_pattern_1) (items := rangeP 0 (s.length + 1))
    (fun i ys ρ => ∃ (dn : List Nat) (ds' : List Int), (∀ d ∈ dn, d ≤ 3) ∧ dn.length = i ∧ ys = dn.map (fun (d : Nat) => PV.int (d : Int)) ∧ ρ = [.io (dk ds'), .sh (.str (st s)), .un, .un, .un])
    (fun i x ys ρ hx hi => by
      obtain ⟨_, rfl⟩ := rangeP_get hx
      obtain ⟨dn, ds', h5, h6, h7, rfl⟩ := hi
      obtain ⟨d, ds2, h8, h9⟩ := pat_elt (ds := ds') (a := .sh (.str (st s))) (b := .un) (x := .sh (.int (0 + (i : Int))))
      refine ⟨_, rfl, .inl ⟨_, _, _, rfl, h9, rfl, dn ++ [d], ds2, ?_, ?_, ?_, rfl⟩⟩
      · intro e he
        rcases List.mem_append.mp he with he | he
        · exact h5 e he
        · rw [List.mem_singleton.mp he]; exact h8
      · rw [List.length_append, h6]; rfl
      · rw [h7, List.map_append]; rfl)
    (ρ0 := [.io (dk ds3), .sh (.str (st s)), .un, .un, .un]) (ys0 := []) ⟨[], _, (fun _ h => nomatch h), rfl, rfl, rfl⟩
  rw [List.nil_append] at h7
  rw [rangeP_len] at h6
  subst h7 h8
  have S4 : sSet 2 (dLc ([(("at" : Str), 4)].map (·.2)) (iR1 (dCons (dAdd (dN gLenN (dCons (dVar 1) dNil)) (dC (.int 1))) dNil)) (gName 4) bYes E__law_pattern_1) [.io (dk ds3), .sh (.str (st s)), .un, .un, .un] = .nx [.io (dk ds4), .sh (.str (st s)), .sh (.lst (dn.map fun (d : Nat) => PV.int (d : Int))), .un, .un] := by
    have e9 := rg1_nat (n := s.length + 1) (ρ := [.io (dk ds3), .sh (.str (st s)), .un, .un, .un]) (by omega)
    rw [show ((s.length + 1 : Nat) : Int) = (s.length : Int) + 1 by omega] at e9
    simp [e9, h4, szn (show s.length ≤ 1000000 by omega), lockE, Sl.lock, h6, show s.length + 1 ≤ 1000000 by omega, backE, List.range, List.range.loop, Sl.back, clean]
  have S5 : sSet 3 (dC (.str ("" : Str))) [.io (dk ds4), .sh (.str (st s)), .sh (.lst (dn.map fun (d : Nat) => PV.int (d : Int))), .un, .un] = .nx (aE ds4 s dn [] .un) := by simp [aE, e_empty]
  -- the text
  obtain ⟨ρ, h9, ds5, t, s4, g1, g2, g3, g4⟩ := dLoop_inv (tgt := gName 4) (body := B__law_pattern_2) (items := rangeP 0 (s.length + 1)) (ρ0 := aE ds4 s dn [] .un)
    (fun i ρ => ∃ (ds' : List Int) (t : List Nat) (s4 : Sl), t.length ≤ 2 * i ∧ (i ≤ s.length → ∀ t', Enc (s.drop i) ((dn.drop i).map fun (d : Nat) => (d : Int)) t' → Enc s (dn.map fun (d : Nat) => (d : Int)) (t ++ t')) ∧ (i = s.length + 1 → Enc s (dn.map fun (d : Nat) => (d : Int)) t) ∧ ρ = aE ds' s dn t s4)
    (fun i x ρ hx hi => by
      obtain ⟨hlt, rfl⟩ := rangeP_get hx
      obtain ⟨ds', t, s4, g1, g2, g3, rfl⟩ := hi
      have hi2 : i < dn.length := by omega
      obtain ⟨ds6, wr, k1, k2⟩ := pat_body (ds := ds') (s := s) (dn := dn) (t := t) (i := i) hi2 h6 h5 (by omega) (by omega)
      obtain ⟨k3, k4⟩ := enc_step hi2 h6 h5 shp.sgs k1 (g2 (by omega))
      rw [Int.zero_add]
      refine ⟨_, _, rfl, .inl k2, ds6, _, _, ?_, fun hle t' he => k3 t' (by omega) he, fun hle => k4 (by omega), rfl⟩
      rw [List.length_append, List.length_append]
      have : (if wr = true then [48 + dn[i]] else []).length ≤ 1 := by cases wr <;> simp
      have : (if h : i < s.length then [s[i]] else []).length ≤ 1 := by split <;> simp
      omega)
    ⟨ds4, [], .un, by simp, fun _ t' he => by simpa using he, fun h => by omega, rfl⟩
  rw [rangeP_len] at g1 g3
  subst g4
  have S6 : sFor (iR1 (dCons (dN gLenN (dCons (dVar 2) dNil)) dNil)) (gName 4) B__law_pattern_2 (aE ds4 s dn [] .un) = .nx (aE ds5 s dn t s4) := by
    rw [← h9]
    simp [aE, rg1_nat (n := s.length + 1) (by omega), h6]
    have e9 := rg1_nat (n := s.length + 1) (ρ := [.io (dk ds4), .sh (.str (st s)), .sh (.lst (dn.map fun (d : Nat) => PV.int (d : Int))), .sh (.str (st [])), .un]) (by omega)
    rw [show ((s.length + 1 : Nat) : Int) = (s.length : Int) + 1 by omega] at e9
    rw [e9]; rfl
  refine ⟨s, l, dn, t, ds5, g3 rfl, shp, by omega, h6, by omega, ?_⟩
  have S7 : den__law_pattern [.io (dk ds), .un, .un, .un, .un] = .rt (.tup [.str (st t), .str (st s), .lst (dn.map fun (d : Nat) => PV.int (d : Int))]) (aE ds5 s dn t s4) := by
    unfold den__law_pattern
    rw [seq_nx S1, seq_nx S2, seq_nx S3, seq_nx S4, seq_nx S5, seq_nx S6]
    simp [aE, szn (n := 3) (by omega)]
  show (match den__law_pattern [.io (dk ds), .un, .un, .un, .un] with | .rt p ρ => fin0 true p ρ | .nx ρ => if false = true then FR.bad else fin0 true .non ρ | .exc x _ => .exc x | _ => .bad) = _
  rw [S7]
  rfl
/-! ### the values: what both loops do -/
abbrev nI (l : List Nat) : List PV := l.map fun (d : Nat) => PV.int (d : Int)
def put1 (dn : List Nat) (start : Nat) (vs : List Nat) (i : Nat) : List Nat := vs.set (start + i) (max (vs.getD (start + i) 0) (dn.getD i 0))
def upd (dn : List Nat) (start : Nat) (vs : List Nat) : List Nat := (List.range dn.length).foldl (put1 dn start) vs
def at1 (wh s dn : List Nat) (vs : List Nat) (start : Nat) : List Nat := if (wh.take (start + s.length)).drop start = s then upd dn start vs else vs
def ins (wh s dn : List Nat) (n : Nat) (vs : List Nat) : List Nat := (List.range n).foldl (at1 wh s dn) vs
theorem foldl_len {f : List Nat → Nat → List Nat} (hf : ∀ v i, (f v i).length = v.length) (l : List Nat) (vs : List Nat) : (l.foldl f vs).length = vs.length := by
  induction l generalizing vs with
  | nil => rfl
  | cons a l ih => rw [List.foldl_cons, ih, hf]
theorem put1_len {dn : List Nat} {start : Nat} (v : List Nat) (i : Nat) : (put1 dn start v i).length = v.length := by simp [put1]
theorem upd_len {dn : List Nat} {start : Nat} {vs : List Nat} : (upd dn start vs).length = vs.length := foldl_len put1_len _ _
theorem at1_len {wh s dn : List Nat} (v : List Nat) (i : Nat) : (at1 wh s dn v i).length = v.length := by
  unfold at1; split
  · exact upd_len
  · rfl
theorem ins_len {wh s dn : List Nat} {n : Nat} {vs : List Nat} : (ins wh s dn n vs).length = vs.length := foldl_len at1_len _ _
theorem foldl_range_succ {f : List Nat → Nat → List Nat} {n : Nat} {vs : List Nat} : (List.range (n + 1)).foldl f vs = f ((List.range n).foldl f vs) n := by
  rw [List.range_succ, List.foldl_append]; rfl
theorem at1_far {wh s dn vs : List Nat} {start : Nat} (h : wh.length < start + s.length) (hs : s ≠ []) : at1 wh s dn vs start = vs := by
  unfold at1
  rw [if_neg]
  intro e
  have := congrArg List.length e
  rw [List.length_drop, List.length_take] at this
  have h0 : s.length ≠ 0 := fun z => hs (List.length_eq_zero_iff.mp z)
  omega
theorem ins_far {wh s dn : List Nat} {n m : Nat} (h : wh.length < n + s.length) (hs : s ≠ []) (vs : List Nat) : ins wh s dn (n + m) vs = ins wh s dn n vs := by
  induction m with
  | zero => rfl
  | succ m ih =>
    show (List.range (n + m + 1)).foldl (at1 wh s dn) vs = _
    rw [foldl_range_succ]
    show at1 wh s dn (ins wh s dn (n + m) vs) (n + m) = _
    rw [ih, at1_far (by omega) hs]
theorem ix_nI {l : List Nat} {i : Nat} (h : i < l.length) : gIx (.lst (nI l)) (.int (i : Int)) = some (.int ((l.getD i 0 : Nat) : Int)) := by
  rw [ix_ints h, List.getD_eq_getElem?_getD, List.getElem?_eq_getElem h]; rfl
theorem set_nI {l : List Nat} {i v : Nat} (h : i < l.length) : gSetL (.lst (nI l)) (.int (i : Int)) (.int (v : Int)) = some (.lst (nI (l.set i v))) := by
  rw [ap_setL, List.length_map, ixN_nat h]
  simp [nI, List.map_set]
theorem max_nI (a b : Nat) : gMax2 [.int (a : Int), .int (b : Int)] = some (.int ((max a b : Nat) : Int)) := by
  rw [ap_max2]
  congr 2
  by_cases h : (b : Int) > a
  · rw [if_pos h, Nat.max_eq_right (by omega)]
  · rw [if_neg h, Nat.max_eq_left (by omega)]
def pvE (w ps x : PV) (xs : Sl) (wh vs s dn : List Nat) (s7 s8 : Sl) : Env := [.sh w, .sh ps, .sh x, .sh (.str (st wh)), .ow (.lst (nI vs)), .sh (.str (st s)), .sh (.lst (nI dn)), s7, s8]
theorem pvE_3 {w ps x : PV} {xs : Sl} {wh vs s dn : List Nat} {start i : Nat} (h1 : start + i < vs.length) (h2 : i < dn.length) :
    B_values_in_3 (pvE w ps x xs wh vs s dn (.sh (.int (start : Int))) (.sh (.int (i : Int)))) = .nx (pvE w ps x xs wh (put1 dn start vs i) s dn (.sh (.int (start : Int))) (.sh (.int (i : Int)))) := by
  have e1 := ix_nI h1
  have e2 := ix_nI h2
  have e3 := set_nI (v := max (vs.getD (start + i) 0) (dn.getD i 0)) h1
  have e4 := max_nI (vs.getD (start + i) 0) (dn.getD i 0)
  rw [show ((start + i : Nat) : Int) = (start : Int) + (i : Int) by omega] at e1 e3
  simp only [B_values_in_3, pvE, ap_sSub, ap_dN, ap_dCons, ap_d2l, ap_dVar, ap_slot, ap_own, ap_d2, ap_addI, List.getElem?_cons_succ, List.getElem?_cons_zero, bind_ok, bindS_ok, opt_some, pv_ow, e1, e2, e3, e4, ap_dNil, with_ow, List.set_cons_succ, List.set_cons_zero, put1]
theorem pvE_2f {w ps x : PV} {xs : Sl} {wh vs s dn : List Nat} {start : Nat} {s8 : Sl} (h1 : start + dn.length ≤ vs.length) (h2 : dn.length ≤ 1000) :
    ∃ s8', sFor (iR1 (dCons (dN gLenN (dCons (dVar 6) dNil)) dNil)) (gName 8) B_values_in_3 (pvE w ps x xs wh vs s dn (.sh (.int (start : Int))) s8) = .nx (pvE w ps x xs wh (upd dn start vs) s dn (.sh (.int (start : Int))) s8') := by
  obtain ⟨ρ, h3, s8', h4⟩ := dLoop_inv (tgt := gName 8) (body := B_values_in_3) (items := rangeP 0 dn.length) (ρ0 := pvE w ps x xs wh vs s dn (.sh (.int (start : Int))) s8)
    (fun i ρ => ∃ s8', ρ = pvE w ps x xs wh ((List.range i).foldl (put1 dn start) vs) s dn (.sh (.int (start : Int))) s8')
    (fun i y ρ hx hi => by
      obtain ⟨hlt, rfl⟩ := rangeP_get hx
      obtain ⟨s8', rfl⟩ := hi
      rw [Int.zero_add]
      refine ⟨_, _, rfl, .inl (pvE_3 (w := w) (ps := ps) (x := x) (xs := xs) (wh := wh) (s := s) (start := start) (i := i) (dn := dn) (vs := (List.range i).foldl (put1 dn start) vs) (by rw [foldl_len put1_len]; omega) hlt), _, by rw [foldl_range_succ]⟩) ⟨_, rfl⟩
  rw [rangeP_len] at h4
  subst h4
  refine ⟨s8', ?_⟩
  have e9 := rg1_nat (n := dn.length) (ρ := pvE w ps x xs wh vs s dn (.sh (.int (start : Int))) s8) (by omega)
  rw [show upd dn start vs = (List.range dn.length).foldl (put1 dn start) vs from rfl, ← h3]
  simp only [pvE] at e9 ⊢
  simp [e9]
theorem pvE_2 {w ps x : PV} {xs : Sl} {wh vs s dn : List Nat} {start : Nat} {s8 : Sl} (hw : asc wh) (hs : asc s) (hwl : wh.length ≤ 1000) (hst : start ≤ 1000) (hne : s ≠ []) (h1 : vs.length = wh.length + 1) (h2 : dn.length = s.length + 1) (h3 : s.length ≤ 500) :
    ∃ s8', B_values_in_2 (pvE w ps x xs wh vs s dn (.sh (.int (start : Int))) s8) = .nx (pvE w ps x xs wh (at1 wh s dn vs start) s dn (.sh (.int (start : Int))) s8') := by
  have e1 := cutP_nat wh start (start + s.length)
  rw [show ((start + s.length : Nat) : Int) = (start : Int) + (s.length : Int) by omega] at e1
  have ha : asc ((wh.take (start + s.length)).drop start) := fun c hc => hw c (List.mem_of_mem_take (List.mem_of_mem_drop hc))
  have hwz : wh.length ≤ sizeLine := szn (by omega)
  have hsz : s.length ≤ sizeLine := szn (by omega)
  by_cases h : (wh.take (start + s.length)).drop start = s
  · have hlen : start + s.length ≤ wh.length := by
      have := congrArg List.length h
      rw [List.length_drop, List.length_take] at this
      have hz : s.length ≠ 0 := fun z => hne (List.length_eq_zero_iff.mp z)
      omega
    obtain ⟨s8', e2⟩ := pvE_2f (w := w) (ps := ps) (x := x) (xs := xs) (wh := wh) (vs := vs) (s := s) (dn := dn) (start := start) (s8 := s8) (by omega) (by omega)
    refine ⟨s8', ?_⟩
    unfold at1
    rw [if_pos h, ← e2]
    simp only [pvE] at e2 ⊢
    simp [B_values_in_2, hwz, hsz, e1, ap_eqS ha hs, h, ap_eqS hs hs]
  · refine ⟨s8, ?_⟩
    unfold at1
    rw [if_neg h]
    simp [B_values_in_2, pvE, hwz, hsz, e1, ap_eqS ha hs, h]
def lvE (w ps x : PV) (xs : Sl) (wh vs s dn : List Nat) (s7 s8 : Sl) : Env := [.sh w, .sh ps, .sh (.str (st wh)), .ow (.lst (nI vs)), .sh x, .sh (.str (st s)), .sh (.lst (nI dn)), s7, s8]
theorem lvE_3 {w ps x : PV} {xs : Sl} {wh vs s dn : List Nat} {start i : Nat} (h1 : start + i < vs.length) (h2 : i < dn.length) :
    B__law_values_3 (lvE w ps x xs wh vs s dn (.sh (.int (start : Int))) (.sh (.int (i : Int)))) = .nx (lvE w ps x xs wh (put1 dn start vs i) s dn (.sh (.int (start : Int))) (.sh (.int (i : Int)))) := by
  have e1 := ix_nI h1
  have e2 := ix_nI h2
  have e3 := set_nI (v := max (vs.getD (start + i) 0) (dn.getD i 0)) h1
  have e4 := max_nI (vs.getD (start + i) 0) (dn.getD i 0)
  rw [show ((start + i : Nat) : Int) = (start : Int) + (i : Int) by omega] at e1 e3
  simp only [B__law_values_3, lvE, ap_sSub, ap_dN, ap_dCons, ap_d2l, ap_dVar, ap_slot, ap_own, ap_d2, ap_addI, List.getElem?_cons_succ, List.getElem?_cons_zero, bind_ok, bindS_ok, opt_some, pv_ow, e1, e2, e3, e4, ap_dNil, with_ow, List.set_cons_succ, List.set_cons_zero, put1]
theorem lvE_2f {w ps x : PV} {xs : Sl} {wh vs s dn : List Nat} {start : Nat} {s8 : Sl} (h1 : start + dn.length ≤ vs.length) (h2 : dn.length ≤ 1000) :
    ∃ s8', sFor (iR1 (dCons (dN gLenN (dCons (dVar 6) dNil)) dNil)) (gName 8) B__law_values_3 (lvE w ps x xs wh vs s dn (.sh (.int (start : Int))) s8) = .nx (lvE w ps x xs wh (upd dn start vs) s dn (.sh (.int (start : Int))) s8') := by
  obtain ⟨ρ, h3, s8', h4⟩ := dLoop_inv (tgt := gName 8) (body := B__law_values_3) (items := rangeP 0 dn.length) (ρ0 := lvE w ps x xs wh vs s dn (.sh (.int (start : Int))) s8)
    (fun i ρ => ∃ s8', ρ = lvE w ps x xs wh ((List.range i).foldl (put1 dn start) vs) s dn (.sh (.int (start : Int))) s8')
    (fun i y ρ hx hi => by
      obtain ⟨hlt, rfl⟩ := rangeP_get hx
      obtain ⟨s8', rfl⟩ := hi
      rw [Int.zero_add]
      refine ⟨_, _, rfl, .inl (lvE_3 (w := w) (ps := ps) (x := x) (xs := xs) (wh := wh) (s := s) (start := start) (i := i) (dn := dn) (vs := (List.range i).foldl (put1 dn start) vs) (by rw [foldl_len put1_len]; omega) hlt), _, by rw [foldl_range_succ]⟩) ⟨_, rfl⟩
  rw [rangeP_len] at h4
  subst h4
  refine ⟨s8', ?_⟩
  have e9 := rg1_nat (n := dn.length) (ρ := lvE w ps x xs wh vs s dn (.sh (.int (start : Int))) s8) (by omega)
  rw [show upd dn start vs = (List.range dn.length).foldl (put1 dn start) vs from rfl, ← h3]
  simp only [lvE] at e9 ⊢
  simp [e9]
theorem lvE_2 {w ps x : PV} {xs : Sl} {wh vs s dn : List Nat} {start : Nat} {s8 : Sl} (hw : asc wh) (hs : asc s) (hwl : wh.length ≤ 1000) (hst : start ≤ 1000) (hne : s ≠ []) (h1 : vs.length = wh.length + 1) (h2 : dn.length = s.length + 1) (h3 : s.length ≤ 500) :
    ∃ s8', B__law_values_2 (lvE w ps x xs wh vs s dn (.sh (.int (start : Int))) s8) = .nx (lvE w ps x xs wh (at1 wh s dn vs start) s dn (.sh (.int (start : Int))) s8') := by
  have e1 := cutP_nat wh start (start + s.length)
  rw [show ((start + s.length : Nat) : Int) = (start : Int) + (s.length : Int) by omega] at e1
  have ha : asc ((wh.take (start + s.length)).drop start) := fun c hc => hw c (List.mem_of_mem_take (List.mem_of_mem_drop hc))
  have hwz : wh.length ≤ sizeLine := szn (by omega)
  have hsz : s.length ≤ sizeLine := szn (by omega)
  by_cases h : (wh.take (start + s.length)).drop start = s
  · have hlen : start + s.length ≤ wh.length := by
      have := congrArg List.length h
      rw [List.length_drop, List.length_take] at this
      have hz : s.length ≠ 0 := fun z => hne (List.length_eq_zero_iff.mp z)
      omega
    obtain ⟨s8', e2⟩ := lvE_2f (w := w) (ps := ps) (x := x) (xs := xs) (wh := wh) (vs := vs) (s := s) (dn := dn) (start := start) (s8 := s8) (by omega) (by omega)
    refine ⟨s8', ?_⟩
    unfold at1
    rw [if_pos h, ← e2]
    simp only [lvE] at e2 ⊢
    simp [B__law_values_2, hwz, hsz, e1, ap_eqS ha hs, h, ap_eqS hs hs]
  · refine ⟨s8, ?_⟩
    unfold at1
    rw [if_neg h]
    simp [B__law_values_2, lvE, hwz, hsz, e1, ap_eqS ha hs, h]
/-- a pattern: its signs, digits, text -/
structure Pat where
  s : List Nat
  dn : List Nat
  t : List Nat
  l : List Nat
structure Pat.Ok (p : Pat) : Prop where
  enc : Enc p.s (p.dn.map fun (d : Nat) => (d : Int)) p.t
  shp : Shp p.s p.l
  len : p.dn.length = p.s.length + 1
  tl : p.t.length ≤ 100
theorem Pat.Ok.ne {p : Pat} (h : p.Ok) : p.s ≠ [] := by
  have := h.shp.ne
  rcases h.shp.sh with e | e | e | e <;> rw [e] <;> simp [this]
def rowP (p : Pat) : PV := .tup [.str (st p.s), .lst (nI p.dn)]
def patP (p : Pat) : PV := .tup [.str (st p.t), .str (st p.s), .lst (nI p.dn)]
def allV (wh : List Nat) (pts : List Pat) (vs : List Nat) : List Nat := pts.foldl (fun vs p => ins wh p.s p.dn wh.length vs) vs
theorem allV_len {wh : List Nat} : ∀ {pts : List Pat} {vs : List Nat}, (allV wh pts vs).length = vs.length
  | [], _ => rfl
  | p :: pts, vs => by
    show (allV wh pts (ins wh p.s p.dn wh.length vs)).length = _
    rw [allV_len, ins_len]
theorem pvE_1 {w ps x : PV} {xs : Sl} {wh vs s dn : List Nat} {s7 s8 : Sl} (hw : asc wh) (hs : asc s) (hwl : wh.length ≤ 900) (hne : s ≠ []) (h1 : vs.length = wh.length + 1) (h2 : dn.length = s.length + 1) (h3 : s.length ≤ 500) :
    ∃ s7' s8', B_values_in_1 (pvE w ps x xs wh vs s dn s7 s8) = .nx (pvE w ps x xs wh (ins wh s dn wh.length vs) s dn s7' s8') := by
  obtain ⟨n, hn⟩ : ∃ n : Nat, n = ((wh.length : Int) - (s.length : Int) + 1).toNat := ⟨_, rfl⟩
  have hn2 : n ≤ wh.length := by
    have h0 : s.length ≠ 0 := fun z => hne (List.length_eq_zero_iff.mp z)
    omega
  have hn3 : ins wh s dn wh.length vs = ins wh s dn n vs := by
    have h0 : s.length ≠ 0 := fun z => hne (List.length_eq_zero_iff.mp z)
    rw [show wh.length = n + (wh.length - n) by omega]
    exact ins_far (by omega) hne vs
  obtain ⟨ρ, h4, s7', s8', h5⟩ := dLoop_inv (tgt := gName 7) (body := B_values_in_2) (items := rangeP 0 n) (ρ0 := pvE w ps x xs wh vs s dn s7 s8)
    (fun i ρ => ∃ s7' s8', ρ = pvE w ps x xs wh (ins wh s dn i vs) s dn s7' s8')
    (fun i y ρ hx hi => by
      obtain ⟨hlt, rfl⟩ := rangeP_get hx
      obtain ⟨s7', s8', rfl⟩ := hi
      rw [Int.zero_add]
      obtain ⟨s8'', e⟩ := pvE_2 (w := w) (ps := ps) (x := x) (xs := xs) (wh := wh) (vs := ins wh s dn i vs) (s := s) (dn := dn) (start := i) (s8 := s8') hw hs (by omega) (by omega) hne (by rw [ins_len]; exact h1) h2 h3
      refine ⟨_, _, rfl, .inl e, .sh (.int (i : Int)), s8'', ?_⟩
      rw [show ins wh s dn (i + 1) vs = at1 wh s dn (ins wh s dn i vs) i from foldl_range_succ]) ⟨_, _, rfl⟩
  rw [rangeP_len] at h5
  subst h5
  refine ⟨s7', s8', ?_⟩
  rw [hn3, ← h4]
  have e9 := rg1_ok (j := (wh.length : Int) - (s.length : Int) + 1) (by omega) (by omega) (ρ := pvE w ps x xs wh vs s dn s7 s8)
  simp only [pvE] at e9 ⊢
  simp [B_values_in_1, szn (show wh.length ≤ 1000000 by omega), szn (show s.length ≤ 1000000 by omega), e9, hn]
theorem pvE_0 {w ps x : PV} {xs : Sl} {wh : List Nat} (hw : asc wh) (hwl : wh.length ≤ 900) : ∀ {pts : List Pat} {vs : List Nat} {z4 s5 s6 s7 s8 : Sl}, (∀ p ∈ pts, p.Ok) → vs.length = wh.length + 1 →
    ∃ (z4' s5' s6' s7' s8' : Sl), dLoop (gTup (gsCons (gName 5) (gsCons (gName 6) gsNil))) B_values_in_1 (pts.map rowP) [.sh w, .sh ps, .sh x, .sh (.str (st wh)), .ow (.lst (nI vs)), s5, s6, s7, s8] = .nx [.sh w, .sh ps, .sh x, .sh (.str (st wh)), .ow (.lst (nI (allV wh pts vs))), s5', s6', s7', s8']
  | [], vs, z4, s5, s6, s7, s8, _, _ => ⟨z4, s5, s6, s7, s8, rfl⟩
  | p :: pts, vs, z4, s5, s6, s7, s8, hp, hv => by
    have ok := hp p List.mem_cons_self
    have hsl := ok.shp.slen
    obtain ⟨s7', s8', e⟩ := pvE_1 (w := w) (ps := ps) (x := x) (xs := xs) (wh := wh) (vs := vs) (s := p.s) (dn := p.dn) (s7 := s7) (s8 := s8) hw (asc_sg ok.shp.sgs) hwl ok.ne hv ok.len (by omega)
    obtain ⟨a4, a5, a6, a7, a8, e2⟩ := pvE_0 (w := w) (ps := ps) (x := x) (xs := xs) hw hwl (pts := pts) (vs := ins wh p.s p.dn wh.length vs) (z4 := .sh (x)) (s5 := .sh (.str (st p.s))) (s6 := .sh (.lst (nI p.dn))) (s7 := s7') (s8 := s8') (fun q hq => hp q (List.mem_cons_of_mem _ hq)) (by rw [ins_len]; exact hv)
    refine ⟨a4, a5, a6, a7, a8, ?_⟩
    rw [List.map_cons, dLoop, show (gTup (gsCons (gName 5) (gsCons (gName 6) gsNil))) (rowP p) [.sh w, .sh ps, .sh x, .sh (.str (st wh)), .ow (.lst (nI vs)), s5, s6, s7, s8] = some (pvE w ps (x) xs wh vs p.s p.dn s7 s8) from rfl]
    simp only
    rw [e]
    exact e2
theorem lvE_1 {w ps x : PV} {xs : Sl} {wh vs s dn : List Nat} {s7 s8 : Sl} (hw : asc wh) (hs : asc s) (hwl : wh.length ≤ 900) (hne : s ≠ []) (h1 : vs.length = wh.length + 1) (h2 : dn.length = s.length + 1) (h3 : s.length ≤ 500) :
    ∃ s7' s8', B__law_values_1 (lvE w ps x xs wh vs s dn s7 s8) = .nx (lvE w ps x xs wh (ins wh s dn wh.length vs) s dn s7' s8') := by
  obtain ⟨n, hn⟩ : ∃ n : Nat, n = wh.length := ⟨_, rfl⟩
  have hn2 : n ≤ wh.length := by
    have h0 : s.length ≠ 0 := fun z => hne (List.length_eq_zero_iff.mp z)
    omega
  have hn3 : ins wh s dn wh.length vs = ins wh s dn n vs := by
    have h0 : s.length ≠ 0 := fun z => hne (List.length_eq_zero_iff.mp z)
    rw [show wh.length = n + (wh.length - n) by omega]
    rw [hn]; simp
  obtain ⟨ρ, h4, s7', s8', h5⟩ := dLoop_inv (tgt := gName 7) (body := B__law_values_2) (items := rangeP 0 n) (ρ0 := lvE w ps x xs wh vs s dn s7 s8)
    (fun i ρ => ∃ s7' s8', ρ = lvE w ps x xs wh (ins wh s dn i vs) s dn s7' s8')
    (fun i y ρ hx hi => by
      obtain ⟨hlt, rfl⟩ := rangeP_get hx
      obtain ⟨s7', s8', rfl⟩ := hi
      rw [Int.zero_add]
      obtain ⟨s8'', e⟩ := lvE_2 (w := w) (ps := ps) (x := x) (xs := xs) (wh := wh) (vs := ins wh s dn i vs) (s := s) (dn := dn) (start := i) (s8 := s8') hw hs (by omega) (by omega) hne (by rw [ins_len]; exact h1) h2 h3
      refine ⟨_, _, rfl, .inl e, .sh (.int (i : Int)), s8'', ?_⟩
      rw [show ins wh s dn (i + 1) vs = at1 wh s dn (ins wh s dn i vs) i from foldl_range_succ]) ⟨_, _, rfl⟩
  rw [rangeP_len] at h5
  subst h5
  refine ⟨s7', s8', ?_⟩
  rw [hn3, ← h4]
  have e9 := rg1_nat (n := wh.length) (by omega) (ρ := lvE w ps x xs wh vs s dn s7 s8)
  simp only [lvE] at e9 ⊢
  simp [B__law_values_1, szn (show wh.length ≤ 1000000 by omega), szn (show s.length ≤ 1000000 by omega), e9, hn]
theorem lvE_0 {w ps x : PV} {xs : Sl} {wh : List Nat} (hw : asc wh) (hwl : wh.length ≤ 900) : ∀ {pts : List Pat} {vs : List Nat} {s4 s5 s6 s7 s8 : Sl}, (∀ p ∈ pts, p.Ok) → vs.length = wh.length + 1 →
    ∃ (s4' s5' s6' s7' s8' : Sl), dLoop (gTup (gsCons (gName 4) (gsCons (gName 5) (gsCons (gName 6) gsNil)))) B__law_values_1 (pts.map patP) [.sh w, .sh ps, .sh (.str (st wh)), .ow (.lst (nI vs)), s4, s5, s6, s7, s8] = .nx [.sh w, .sh ps, .sh (.str (st wh)), .ow (.lst (nI (allV wh pts vs))), s4', s5', s6', s7', s8']
  | [], vs, s4, s5, s6, s7, s8, _, _ => ⟨s4, s5, s6, s7, s8, rfl⟩
  | p :: pts, vs, s4, s5, s6, s7, s8, hp, hv => by
    have ok := hp p List.mem_cons_self
    have hsl := ok.shp.slen
    obtain ⟨s7', s8', e⟩ := lvE_1 (w := w) (ps := ps) (x := .str (st p.t)) (xs := xs) (wh := wh) (vs := vs) (s := p.s) (dn := p.dn) (s7 := s7) (s8 := s8) hw (asc_sg ok.shp.sgs) hwl ok.ne hv ok.len (by omega)
    obtain ⟨a4, a5, a6, a7, a8, e2⟩ := lvE_0 (w := w) (ps := ps) (x := x) (xs := xs) hw hwl (pts := pts) (vs := ins wh p.s p.dn wh.length vs) (s4 := .sh (.str (st p.t))) (s5 := .sh (.str (st p.s))) (s6 := .sh (.lst (nI p.dn))) (s7 := s7') (s8 := s8') (fun q hq => hp q (List.mem_cons_of_mem _ hq)) (by rw [ins_len]; exact hv)
    refine ⟨a4, a5, a6, a7, a8, ?_⟩
    rw [List.map_cons, dLoop, show (gTup (gsCons (gName 4) (gsCons (gName 5) (gsCons (gName 6) gsNil)))) (patP p) [.sh w, .sh ps, .sh (.str (st wh)), .ow (.lst (nI vs)), s4, s5, s6, s7, s8] = some (lvE w ps (.str (st p.t)) xs wh vs p.s p.dn s7 s8) from rfl]
    simp only
    rw [e]
    exact e2
def whole (w : List Nat) : List Nat := 46 :: (w ++ [46])
theorem whole_len (w : List Nat) : (whole w).length = w.length + 2 := by simp [whole]
theorem asc_whole {w : List Nat} (h : abc w) : asc (whole w) := by
  intro c hc
  rcases List.mem_cons.mp hc with e | e
  · omega
  · rcases List.mem_append.mp e with e | e
    · exact asc_abc h c e
    · rw [List.mem_singleton.mp e]; omega
def due (w : List Nat) (pts : List Pat) : List Nat := ((allV (whole w) pts (List.replicate (w.length + 3) 0)).take (w.length + 1)).drop 2
theorem due_len {w : List Nat} {pts : List Pat} : (due w pts).length = w.length - 1 := by
  unfold due
  rw [List.length_drop, List.length_take, allV_len, List.length_replicate]
  omega
theorem flat_zero : ∀ n : Nat, (List.replicate n [PV.int 0]).flatten = nI (List.replicate n 0)
  | 0 => rfl
  | n + 1 => by rw [List.replicate_succ, List.flatten_cons, flat_zero n]; rfl
theorem zeros {n : Nat} (h : n ≤ 1000) : gRep (.lst [.int 0]) (.int (n : Int)) = some (.lst (nI (List.replicate n 0))) := by
  have h1 : decide (-(2 ^ 63) ≤ (n : Int)) = true := decide_eq_true (by omega)
  have h2 : decide ((n : Int) < 2 ^ 63) = true := decide_eq_true (by omega)
  have h3 : decide ([PV.int 0].length * (n : Int).toNat ≤ sizeLine) = true := decide_eq_true (by rw [sizeLine_eq]; simp; omega)
  unfold gRep
  simp only [h1, h2, h3, Bool.and_self, if_true]
  rw [Int.toNat_natCast, flat_zero]
theorem F_lvalues_eq {w : List Nat} {pts : List Pat} (hw : abc w) (hl : w.length ≤ 100) (hp : ∀ p ∈ pts, p.Ok) : F__law_values [.str (st w), .lst (pts.map patP)] = .ok (.lst (nI (due w pts))) .non := by
  obtain ⟨s4, s5, s6, s7, s8, e⟩ := lvE_0 (w := .str (st w)) (ps := .lst (pts.map patP)) (x := .non) (xs := .un) (wh := whole w) (asc_whole hw) (by rw [whole_len]; omega) (pts := pts) (vs := List.replicate (w.length + 3) 0) (s4 := .un) (s5 := .un) (s6 := .un) (s7 := .un) (s8 := .un) hp (by rw [whole_len]; simp)
  have S1 : sSet 2 (dAdd (dAdd (dC (.str ("." : Str))) (dVar 0)) (dC (.str ("." : Str)))) [.sh (.str (st w)), .sh (.lst (pts.map patP)), .un, .un, .un, .un, .un, .un, .un] = .nx [.sh (.str (st w)), .sh (.lst (pts.map patP)), .sh (.str (st (whole w))), .un, .un, .un, .un, .un, .un] := by
    simp [e_pt, whole, szn (show 1 + w.length ≤ 1000000 by omega), szn (show w.length + 1 + 1 ≤ 1000000 by omega)]
  have S2 : sSetF 3 (d2 gRep (dLst (dCons (dC (.int 0)) dNil)) (dAdd (dN gLenN (dCons (dVar 2) dNil)) (dC (.int 1)))) [.sh (.str (st w)), .sh (.lst (pts.map patP)), .sh (.str (st (whole w))), .un, .un, .un, .un, .un, .un] = .nx [.sh (.str (st w)), .sh (.lst (pts.map patP)), .sh (.str (st (whole w))), .ow (.lst (nI (List.replicate (w.length + 3) 0))), .un, .un, .un, .un, .un] := by
    have z := zeros (n := w.length + 3) (by omega)
    rw [show ((w.length + 3 : Nat) : Int) = (w.length : Int) + 2 + 1 by omega] at z
    simp [whole_len, szn (show w.length + 2 ≤ 1000000 by omega), szn (show 1 ≤ 1000000 by omega), z]
  have S3 : sFor (iSeq (dVar 1)) (gTup (gsCons (gName 4) (gsCons (gName 5) (gsCons (gName 6) gsNil)))) B__law_values_1 [.sh (.str (st w)), .sh (.lst (pts.map patP)), .sh (.str (st (whole w))), .ow (.lst (nI (List.replicate (w.length + 3) 0))), .un, .un, .un, .un, .un] = .nx [.sh (.str (st w)), .sh (.lst (pts.map patP)), .sh (.str (st (whole w))), .ow (.lst (nI (allV (whole w) pts (List.replicate (w.length + 3) 0)))), s4, s5, s6, s7, s8] := by
    rw [← e]; simp
  have S4 : ∃ ρ, sRet (dSlv gSlL 3 (oSome (dC (.int 2))) (oSome (dSub (dN gLenN (dCons (dVar 2) dNil)) (dC (.int 1))))) [.sh (.str (st w)), .sh (.lst (pts.map patP)), .sh (.str (st (whole w))), .ow (.lst (nI (allV (whole w) pts (List.replicate (w.length + 3) 0)))), s4, s5, s6, s7, s8] = .rt (.lst (nI (due w pts))) ρ := by
    have e1 := cutP_nat (nI (allV (whole w) pts (List.replicate (w.length + 3) 0))) 2 (w.length + 1)
    rw [show ((w.length + 1 : Nat) : Int) = (w.length : Int) + 2 - 1 by omega, show ((2 : Nat) : Int) = 2 from rfl] at e1
    refine ⟨[.sh (.str (st w)), .sh (.lst (pts.map patP)), .sh (.str (st (whole w))), .ow (.lst (nI (allV (whole w) pts (List.replicate (w.length + 3) 0)))), s4, s5, s6, s7, s8], ?_⟩
    simp only [ap_sRet, ap_dSlv, ap_slot, List.getElem?_cons_succ, List.getElem?_cons_zero, pv_ow, ap_oSome, ap_dC, bind_ok, ap_int?, Option.map_some, opt_some, ap_d2, ap_dN, ap_dCons, ap_dVar, ap_dNil, ap_lenN, ap_lenS, st_len, whole_len, szn (show w.length + 2 ≤ 1000000 by omega), if_true, ap_subI, ap_slLL, bindS_ok]
    rw [show ((w.length + 2 : Nat) : Int) - 1 = (w.length : Int) + 2 - 1 by omega, e1]
    simp only [nI, due, List.map_take, List.map_drop]
  obtain ⟨ρ, S4⟩ := S4
  have S5 : den__law_values [.sh (.str (st w)), .sh (.lst (pts.map patP)), .un, .un, .un, .un, .un, .un, .un] = .rt (.lst (nI (due w pts))) ρ := by
    unfold den__law_values
    rw [seq_nx S1, seq_nx S2, seq_nx S3, S4]
  show (match den__law_values [.sh (.str (st w)), .sh (.lst (pts.map patP)), .un, .un, .un, .un, .un, .un, .un] with | .rt p ρ => fin0 false p ρ | .nx ρ => if false = true then FR.bad else fin0 false .non ρ | .exc x _ => .exc x | _ => .bad) = _
  rw [S5]
  rfl
theorem rows_shaped {pts : List Pat} (hp : ∀ p ∈ pts, p.Ok) : SeqAt.shaped (PV.lst (pts.map rowP)).toD = true := by
  have row : ∀ p ∈ pts, (rowP p).toD.canLay0 = true ∧ (rowP p).toD.depth ≤ 2 := by
    intro p h
    have h1 : PyData.strOk (st p.s) = true := strOk_st (asc_sg (hp p h).shp.sgs)
    have h2 : PyData.canLayAll0 (toDs (nI p.dn)) = true := canAll_iff.mpr fun q hq => by
      obtain ⟨d, _, e⟩ := List.mem_map.mp hq
      subst e; rfl
    have h3 : PyData.depthAll (toDs (nI p.dn)) ≤ 0 := depthAll_le fun q hq => by
      obtain ⟨d, _, e⟩ := List.mem_map.mp hq
      subst e; exact Nat.le_refl _
    refine ⟨by simp only [rowP, PV.toD, toDs, PyData.canLay0, PyData.canLayAll0, h1, h2, Bool.and_self], ?_⟩
    simp only [rowP, PV.toD, toDs, PyData.depth, PyData.depthAll]
    omega
  have h1 : (PV.lst (pts.map rowP)).toD.canLay0 = true := by
    simp only [PV.toD, PyData.canLay0]
    exact canAll_iff.mpr fun q hq => by
      obtain ⟨p, h, e⟩ := List.mem_map.mp hq
      subst e; exact (row p h).1
  have h2 : (PV.lst (pts.map rowP)).toD.depth ≤ 3 := by
    simp only [PV.toD, PyData.depth]
    exact Nat.succ_le_succ (depthAll_le fun q hq => by
      obtain ⟨p, h, e⟩ := List.mem_map.mp hq
      subst e; exact (row p h).2)
  simp only [SeqAt.shaped, h1, Bool.true_and, decide_eq_true_eq]
  omega
theorem none_in {pts : List Pat} (hp : ∀ p ∈ pts, p.Ok) : gIn false .non (.lst (pts.map rowP)) = some (.bl false) := by
  have h1 : (pts.map rowP).any (fun y => pvEq y .non) = false := by
    rw [List.any_eq_false]
    intro q hq
    obtain ⟨p, _, e⟩ := List.mem_map.mp hq
    subst e
    simp [pvEq, rowP, PV.toD, PyData.eqv]
  have h2 : SeqAt.shaped (PV.toD .non) = true := by decide +kernel
  unfold gIn
  simp only [h2, rows_shaped hp, h1, Bool.and_self, if_true, if_false, Bool.false_eq_true]
theorem F_check_eq {w : List Nat} {pts : List Pat} (hw : abc w) (hne : w ≠ []) (hl : w.length ≤ 100) (hp : ∀ p ∈ pts, p.Ok) (hpl : pts.length ≤ 100) : F_check_word [.str (st w), .lst (pts.map fun p => .str (st p.t))] = .ok (.lst (pts.map rowP)) .non := by
  let PS : PV := .lst (pts.map fun p => .str (st p.t))
  have lc : ∀ (qs : List Pat), (∀ p ∈ qs, p.Ok) → lcLoop [3] (gName 3) bYes E_check_word_1 (qs.map fun p => .str (st p.t)) [.sh (.str (st w)), .sh PS, .un, .un, .un] = some (qs.map rowP, [.sh (.str (st w)), .sh PS, .un, .un, .un]) := by
    intro qs
    induction qs with
    | nil => intro _; rfl
    | cons p qs ih =>
      intro h
      have ok := h p List.mem_cons_self
      have e := F_parts_eq ok.enc ok.shp
      have e : F_parts_of [.str (st p.t)] = .ok (rowP p) .non := by rw [e]; simp [rowP, nI]
      have ih := ih fun q hq => h q (List.mem_cons_of_mem _ hq)
      have eE : E_check_word_1 [.sh (.str (st w)), .sh PS, .un, .sh (.str (st p.t)), .un] = .ok (rowP p) [.sh (.str (st w)), .sh PS, .un, .sh (.str (st p.t)), .un] := by simp [E_check_word_1, e]
      rw [List.map_cons, lcLoop]
      simp [eE, noOw, Sl.isOw, wipeE, ih]
  have lc := lc pts hp
  have S1 : sSet 2 (dLc ([(("pattern" : Str), 3)].map (·.2)) (iSeq (dVar 1)) (gName 3) bYes E_check_word_1) [.sh (.str (st w)), .sh PS, .un, .un, .un] = .nx [.sh (.str (st w)), .sh PS, .sh (.lst (pts.map rowP)), .un, .un] := by
    simp only [ap_sSet, ap_dLc, ap_iSeq, ap_dVar, List.getElem?_cons_succ, List.getElem?_cons_zero, bind_ok]
    rw [show seqOf PS = some (pts.map fun p => .str (st p.t)) from rfl]
    simp [lockE, Sl.lock, lc, show pts.length ≤ 1000000 by omega, backE, List.range, List.range.loop, Sl.back, clean]
  have S2 : sIf (bVal (d2 (gIn false) (dC .non) (dVar 2))) (sRaise ("InvalidText" : Str) "what" (dC (.str ("pattern" : Str)))) sNx [.sh (.str (st w)), .sh PS, .sh (.lst (pts.map rowP)), .un, .un] = .nx [.sh (.str (st w)), .sh PS, .sh (.lst (pts.map rowP)), .un, .un] := by
    simp [none_in hp]
  have S3 : sIf (bOr (bNot (bTruV 0)) (bTru (dLc ([(("sign" : Str), 4)].map (·.2)) (iSeq (dVar 0)) (gName 4) T_check_word_2 E_check_word_2))) (sRaise ("InvalidText" : Str) "what" (dC (.str ("word" : Str)))) sNx [.sh (.str (st w)), .sh PS, .sh (.lst (pts.map rowP)), .un, .un] = .nx [.sh (.str (st w)), .sh PS, .sh (.lst (pts.map rowP)), .un, .un] := by
    have hl0 : ¬ (w.length = 0) := fun z => hne (List.length_eq_zero_iff.mp z)
    have hlc := letters_lc (own := [4]) hw E_check_word_2 T_check_word_2 (gName 4) [.sh (.str (st w)), .sh PS, .sh (.lst (pts.map rowP)), .un, .un] (fun c hc => ⟨_, [.sh (.str (st w)), .sh PS, .sh (.lst (pts.map rowP)), .un, .sh (.str (st [c]))], rfl, by simp [T_check_word_2, c_LETTERS, e_let, in_let (hw c hc)], rfl, rfl⟩)
    simp [truth, szn (show w.length ≤ 1000000 by omega), hl0, hne, lockE, Sl.lock, hlc, backE, List.range, List.range.loop, Sl.back, clean]
  have S5 : den_check_word [.sh (.str (st w)), .sh PS, .un, .un, .un] = .rt (.lst (pts.map rowP)) [.sh (.str (st w)), .sh PS, .sh (.lst (pts.map rowP)), .un, .un] := by
    unfold den_check_word
    rw [seq_nx S1, seq_nx S2, seq_nx S3]
    simp
  show (match den_check_word [.sh (.str (st w)), .sh PS, .un, .un, .un] with | .rt p ρ => fin0 false p ρ | .nx ρ => if false = true then FR.bad else fin0 false .non ρ | .exc x _ => .exc x | _ => .bad) = _
  rw [S5]
  rfl
theorem F_values_eq {w : List Nat} {pts : List Pat} (hw : abc w) (hne : w ≠ []) (hl : w.length ≤ 100) (hp : ∀ p ∈ pts, p.Ok) (hpl : pts.length ≤ 100) : F_values_in [.str (st w), .lst (pts.map fun p => .str (st p.t))] = .ok (.lst (nI (due w pts))) .non := by
  let PS : PV := .lst (pts.map fun p => .str (st p.t))
  let RS : PV := .lst (pts.map rowP)
  obtain ⟨z4, s5, s6, s7, s8, e⟩ := pvE_0 (w := .str (st w)) (ps := PS) (x := RS) (xs := .un) (wh := whole w) (asc_whole hw) (by rw [whole_len]; omega) (pts := pts) (vs := List.replicate (w.length + 3) 0) (z4 := .un) (s5 := .un) (s6 := .un) (s7 := .un) (s8 := .un) hp (by rw [whole_len]; simp)
  have S0 : sSet 2 (dCall F_check_word (dCons (dVar 0) (dCons (dVar 1) dNil))) [.sh (.str (st w)), .sh PS, .un, .un, .un, .un, .un, .un, .un] = .nx [.sh (.str (st w)), .sh PS, .sh RS, .un, .un, .un, .un, .un, .un] := by
    have := F_check_eq hw hne hl hp hpl
    simp [PS, RS, this]
  have S1 : sSet 3 (dAdd (dAdd (dC (.str ("." : Str))) (dVar 0)) (dC (.str ("." : Str)))) [.sh (.str (st w)), .sh PS, .sh RS, .un, .un, .un, .un, .un, .un] = .nx [.sh (.str (st w)), .sh PS, .sh RS, .sh (.str (st (whole w))), .un, .un, .un, .un, .un] := by
    simp [e_pt, whole, szn (show 1 + w.length ≤ 1000000 by omega), szn (show w.length + 1 + 1 ≤ 1000000 by omega)]
  have S2 : sSetF 4 (d2 gRep (dLst (dCons (dC (.int 0)) dNil)) (dAdd (dN gLenN (dCons (dVar 3) dNil)) (dC (.int 1)))) [.sh (.str (st w)), .sh PS, .sh RS, .sh (.str (st (whole w))), .un, .un, .un, .un, .un] = .nx [.sh (.str (st w)), .sh PS, .sh RS, .sh (.str (st (whole w))), .ow (.lst (nI (List.replicate (w.length + 3) 0))), .un, .un, .un, .un] := by
    have z := zeros (n := w.length + 3) (by omega)
    rw [show ((w.length + 3 : Nat) : Int) = (w.length : Int) + 2 + 1 by omega] at z
    simp [whole_len, szn (show w.length + 2 ≤ 1000000 by omega), szn (show 1 ≤ 1000000 by omega), z]
  have S3 : sFor (iSeq (dVar 2)) (gTup (gsCons (gName 5) (gsCons (gName 6) gsNil))) B_values_in_1 [.sh (.str (st w)), .sh PS, .sh RS, .sh (.str (st (whole w))), .ow (.lst (nI (List.replicate (w.length + 3) 0))), .un, .un, .un, .un] = .nx [.sh (.str (st w)), .sh PS, .sh RS, .sh (.str (st (whole w))), .ow (.lst (nI (allV (whole w) pts (List.replicate (w.length + 3) 0)))), s5, s6, s7, s8] := by
    rw [← e]; simp [RS]
  obtain ⟨ρ, S4⟩ : ∃ ρ, sRet (dSlv gSlL 4 (oSome (dC (.int 2))) (oSome (dAdd (dN gLenN (dCons (dVar 0) dNil)) (dC (.int 1))))) [.sh (.str (st w)), .sh PS, .sh RS, .sh (.str (st (whole w))), .ow (.lst (nI (allV (whole w) pts (List.replicate (w.length + 3) 0)))), s5, s6, s7, s8] = .rt (.lst (nI (due w pts))) ρ := by
    have e1 := cutP_nat (nI (allV (whole w) pts (List.replicate (w.length + 3) 0))) 2 (w.length + 1)
    rw [show ((w.length + 1 : Nat) : Int) = (w.length : Int) + 1 by omega, show ((2 : Nat) : Int) = 2 from rfl] at e1
    refine ⟨[.sh (.str (st w)), .sh PS, .sh RS, .sh (.str (st (whole w))), .ow (.lst (nI (allV (whole w) pts (List.replicate (w.length + 3) 0)))), s5, s6, s7, s8], ?_⟩
    simp only [ap_sRet, ap_dSlv, ap_slot, List.getElem?_cons_succ, List.getElem?_cons_zero, pv_ow, ap_oSome, ap_dC, bind_ok, ap_int?, Option.map_some, opt_some, ap_d2, ap_dN, ap_dCons, ap_dVar, ap_dNil, ap_lenN, ap_lenS, st_len, szn (show w.length ≤ 1000000 by omega), if_true, ap_addI, ap_slLL, bindS_ok, e1]
    simp only [nI, due, List.map_take, List.map_drop]
  have S5 : den_values_in [.sh (.str (st w)), .sh PS, .un, .un, .un, .un, .un, .un, .un] = .rt (.lst (nI (due w pts))) ρ := by
    unfold den_values_in
    rw [seq_nx S0, seq_nx S1, seq_nx S2, seq_nx S3, S4]
  show (match den_values_in [.sh (.str (st w)), .sh PS, .un, .un, .un, .un, .un, .un, .un] with | .rt p ρ => fin0 false p ρ | .nx ρ => if false = true then FR.bad else fin0 false .non ρ | .exc x _ => .exc x | _ => .bad) = _
  rw [S5]
  rfl
/-! ### hyphens -/
def okA (n : Nat) (v : List Nat) (a : Nat) : Bool := decide (v.getD (a - 1) 0 % 2 = 1) && (decide (2 ≤ a) && decide (a + 2 ≤ n))
def hyp (n : Nat) (v : List Nat) (i : Nat) : List Nat := ((List.range i).map (· + 1)).filter (okA n v)
def cutsL (v : List Nat) (i : Nat) : List Nat := ((List.range i).map (· + 2)).filter fun a => decide (v.getD (a - 1) 0 % 2 = 1)
theorem hyp_succ {n : Nat} {v : List Nat} {i : Nat} : hyp n v (i + 1) = hyp n v i ++ (if okA n v (i + 1) then [i + 1] else []) := by
  unfold hyp
  rw [List.range_succ, List.map_append, List.filter_append]
  simp [List.filter_cons]
theorem cutsL_succ {v : List Nat} {i : Nat} : cutsL v (i + 1) = cutsL v i ++ (if v.getD (i + 1) 0 % 2 = 1 then [i + 2] else []) := by
  unfold cutsL
  rw [List.range_succ, List.map_append, List.filter_append]
  simp [List.filter_cons]
theorem hyp_low {n : Nat} {v : List Nat} (m : Nat) (h : m + 2 ≤ n - 1) : hyp n v (m + 1) = cutsL v m := by
  induction m with
  | zero => rw [hyp_succ]; simp [hyp, cutsL, okA]
  | succ m ih =>
    rw [hyp_succ, ih (by omega), cutsL_succ]
    congr 1
    have h1 : 2 ≤ m + 1 + 1 := by omega
    have h2 : m + 1 + 1 + 2 ≤ n := by omega
    simp only [okA, h1, h2, decide_true, Bool.and_true, Nat.add_sub_cancel]
    by_cases hq : v.getD (m + 1) 0 % 2 = 1 <;> simp [hq]
theorem hyp_eq {n : Nat} {v : List Nat} (hn : 1 ≤ n) : hyp n v (n - 1) = cutsL v (n - 3) := by
  by_cases h : n < 3
  · rcases (show n = 1 ∨ n = 2 by omega) with rfl | rfl
    · rfl
    · rw [hyp_succ]; simp [hyp, cutsL, okA]
  · obtain ⟨m, rfl⟩ : ∃ m, n = m + 3 := ⟨n - 3, by omega⟩
    show hyp (m + 3) v (m + 1 + 1) = cutsL v m
    rw [hyp_succ, hyp_low m (by omega)]
    simp [okA]
theorem mod2 (a : Nat) : ((a : Int) % 2 = 1) ↔ a % 2 = 1 := by omega
theorem F_hyphens_eq {w : List Nat} {pts : List Pat} (hw : abc w) (hne : w ≠ []) (hl : w.length ≤ 100) (hp : ∀ p ∈ pts, p.Ok) (hpl : pts.length ≤ 100) : F_hyphens [.str (st w), .lst (pts.map fun p => .str (st p.t))] = .ok (.lst (nI (cutsL (due w pts) (w.length - 3)))) .non := by
  let PS : PV := .lst (pts.map fun p => .str (st p.t))
  have hv : (due w pts).length = w.length - 1 := due_len
  have hn : 1 ≤ w.length := Nat.pos_of_ne_zero fun z => hne (List.length_eq_zero_iff.mp z)
  generalize hD : due w pts = v at *
  obtain ⟨ys, ρ, h1, h2, h3⟩ := lcLoop_inv (own := [3]) (tgt := gName 3) (test := T_hyphens_1) (elt := E_hyphens_1) (items := rangeP 0 v.length)
    (fun i ys ρ => ys = nI (hyp w.length v i) ∧ ρ = [.sh (.str (st w)), .sh PS, .sh (.lst (nI v)), .un])
    (fun i x ys ρ hx hi => by
      obtain ⟨hlt, rfl⟩ := rangeP_get hx
      obtain ⟨rfl, rfl⟩ := hi
      rw [Int.zero_add]
      refine ⟨_, rfl, ?_⟩
      have e1 := ix_nI hlt
      have hwz := szn (show w.length ≤ 1000000 by omega)
      have T : T_hyphens_1 [.sh (.str (st w)), .sh PS, .sh (.lst (nI v)), .sh (.int (i : Int))] = .ok (okA w.length v (i + 1)) [.sh (.str (st w)), .sh PS, .sh (.lst (nI v)), .sh (.int (i : Int))] := by
        simp only [T_hyphens_1, ap_bAnd, ap_bVal, ap_d2, ap_dVar, List.getElem?_cons_succ, List.getElem?_cons_zero, bind_ok, e1, opt_some, ap_dC, ap_modI, show decide ((0 : Int) < 2) = true from rfl, if_true, ap_eqI, ap_bool, ap_dChain, ap_addI, ap_cmpI, ap_dN, ap_dCons, ap_dNil, ap_lenN, ap_lenS, st_len, hwz, ap_subI]
        unfold okA
        rw [Nat.add_sub_cancel]
        by_cases h1 : v.getD i 0 % 2 = 1
        · have h1' : ((v.getD i 0 : Nat) : Int) % 2 = 1 := (mod2 _).mpr h1
          by_cases h2 : 2 ≤ i + 1
          · have h2' : (2 : Int) ≤ (i : Int) + 1 := by omega
            by_cases h3 : i + 1 + 2 ≤ w.length
            · have h3' : (i : Int) + 1 ≤ (w.length : Int) - 2 := by omega
              simp only [h1, h1', h2, h2', h3, h3', decide_true, Bool.and_self, if_true, bind_ok, opt_some, ap_bool]
            · have h3' : ¬ (i : Int) + 1 ≤ (w.length : Int) - 2 := by omega
              simp only [h1, h1', h2, h2', h3, h3', decide_true, decide_false, Bool.and_false, if_true, bind_ok, opt_some, ap_bool]
          · have h2' : ¬ (2 : Int) ≤ (i : Int) + 1 := by omega
            simp only [h1, h1', h2, h2', decide_true, decide_false, Bool.false_and, Bool.and_false, if_true, bind_ok, opt_some, ap_bool]
        · have h1' : ¬ ((v.getD i 0 : Nat) : Int) % 2 = 1 := fun z => h1 ((mod2 _).mp z)
          simp only [h1, h1', decide_false, Bool.false_and, Bool.false_eq_true, if_false]
      cases ho : okA w.length v (i + 1) with
      | true =>
        rw [ho] at T
        refine .inl ⟨_, .int ((i + 1 : Nat) : Int), [.sh (.str (st w)), .sh PS, .sh (.lst (nI v)), .sh (.int (i : Int))], T, ?_, rfl, ?_, rfl⟩
        · simp [E_hyphens_1]
        · rw [hyp_succ, ho, if_pos rfl]; simp [nI]
      | false =>
        rw [ho] at T
        refine .inr ⟨_, T, rfl, ?_, rfl⟩
        rw [hyp_succ, ho]; simp)
    (ρ0 := [.sh (.str (st w)), .sh PS, .sh (.lst (nI v)), .un]) (ys0 := []) ⟨rfl, rfl⟩
  rw [List.nil_append, rangeP_len, hv, hyp_eq hn] at h2
  subst h2 h3
  have hF := F_values_eq hw hne hl hp hpl
  rw [hD] at hF
  have hlen : (cutsL v (w.length - 3)).length ≤ 1000000 := by
    have := List.length_filter_le (fun a => decide (v.getD (a - 1) 0 % 2 = 1)) ((List.range (w.length - 3)).map (· + 2))
    unfold cutsL
    rw [List.length_map, List.length_range] at this
    omega
  have S1 : sSet 2 (dCall F_values_in (dCons (dVar 0) (dCons (dVar 1) dNil))) [.sh (.str (st w)), .sh PS, .un, .un] = .nx [.sh (.str (st w)), .sh PS, .sh (.lst (nI v)), .un] := by
    simp [PS, hF]
  have S2 : sRet (dLc ([(("at" : Str), 3)].map (·.2)) (iR1 (dCons (dN gLenN (dCons (dVar 2) dNil)) dNil)) (gName 3) T_hyphens_1 E_hyphens_1) [.sh (.str (st w)), .sh PS, .sh (.lst (nI v)), .un] = .rt (.lst (nI (cutsL v (w.length - 3)))) [.sh (.str (st w)), .sh PS, .sh (.lst (nI v)), .un] := by
    have e9 := rg1_nat (n := v.length) (ρ := [.sh (.str (st w)), .sh PS, .sh (.lst (nI v)), .un]) (by omega)
    simp [e9, lockE, Sl.lock, h1, hlen, backE, List.range, List.range.loop, Sl.back, clean]
  have S5 : den_hyphens [.sh (.str (st w)), .sh PS, .un, .un] = .rt (.lst (nI (cutsL v (w.length - 3)))) [.sh (.str (st w)), .sh PS, .sh (.lst (nI v)), .un] := by
    unfold den_hyphens
    rw [seq_nx S1, S2]
  show (match den_hyphens [.sh (.str (st w)), .sh PS, .un, .un] with | .rt p ρ => fin0 false p ρ | .nx ρ => if false = true then FR.bad else fin0 false .non ρ | .exc x _ => .exc x | _ => .bad) = _
  rw [S5]
  rfl
/-! ### the rows of a word -/
theorem lc_map {own : List Nat} {tg : DenG} {E : Den} {α : Type} (g f : α → PV) (ρ : Env) : ∀ (l : List α), (∀ c ∈ l, ∃ ρ1 ρ2, tg (g c) ρ = some ρ1 ∧ E ρ1 = .ok (f c) ρ2 ∧ noOw ρ2 = true ∧ wipeE own ρ2 = ρ) → lcLoop own tg bYes E (l.map g) ρ = some (l.map f, ρ)
  | [], _ => rfl
  | c :: l, h => by
    obtain ⟨ρ1, ρ2, h1, h2, h3, h4⟩ := h c List.mem_cons_self
    have ih := lc_map (own := own) (tg := tg) (E := E) g f ρ l fun d hd => h d (List.mem_cons_of_mem _ hd)
    rw [List.map_cons, lcLoop]
    simp only [h1, h2, h3, if_true, h4, ap_bYes, ih, List.map_cons]
theorem lc_none {own : List Nat} {tg : DenG} {T : DenB} {E : Den} {α : Type} (g : α → PV) (ρ : Env) : ∀ (l : List α), (∀ c ∈ l, ∃ ρ1 ρ2, tg (g c) ρ = some ρ1 ∧ T ρ1 = .ok false ρ2 ∧ noOw ρ2 = true ∧ wipeE own ρ2 = ρ) → lcLoop own tg T E (l.map g) ρ = some ([], ρ)
  | [], _ => rfl
  | c :: l, h => by
    obtain ⟨ρ1, ρ2, h1, h2, h3, h4⟩ := h c List.mem_cons_self
    have ih := lc_none (own := own) (tg := tg) (T := T) (E := E) g ρ l fun d hd => h d (List.mem_cons_of_mem _ hd)
    rw [List.map_cons, lcLoop]
    simp only [h1, h2, h3, if_true, h4, ih]
def wv (x y c : Nat) : Nat := if c = 97 then x else if c = 98 then 4 else if c = 99 then 5 else y
def WP (x y : Nat) : PV := .dic false [.str (st [97]), .str (st [98]), .str (st [99]), .str (st [45])] [.int (x : Int), .int 4, .int 5, .int (y : Int)]
abbrev lt4 (c : Nat) : Prop := c = 97 ∨ c = 98 ∨ c = 99 ∨ c = 45
theorem gd_W {x y c : Nat} (h : lt4 c) : gDG (WP x y) (.str (st [c])) = some (.int ((wv x y c : Nat) : Int)) := by
  rcases h with rfl | rfl | rfl | rfl <;> simp [gDG, WP, kGood, dLook, kEq, kk?, key?, wv, kOk]
theorem gd2_W {x y c : Nat} {d : PV} (h : lt4 c) : gDG2 (WP x y) (.str (st [c])) d = some (.int ((wv x y c : Nat) : Int)) := by
  rcases h with rfl | rfl | rfl | rfl <;> simp [gDG2, WP, kGood, dLook, kEq, kk?, key?, wv, kOk]
def sumW (x y : Nat) (l : List Nat) : Nat := (l.map (wv x y)).sum
theorem ints_W {x y : Nat} : ∀ l : List Nat, ints? (l.map fun c => .int ((wv x y c : Nat) : Int)) = some (l.map fun c => ((wv x y c : Nat) : Int))
  | [] => rfl
  | c :: l => by simp [ints?, ints_W l]
theorem sum_W {x y : Nat} : ∀ l : List Nat, (l.map fun c => ((wv x y c : Nat) : Int)).sum = ((sumW x y l : Nat) : Int)
  | [] => rfl
  | c :: l => by
    have := sum_W (x := x) (y := y) l
    simp only [List.map_cons, List.sum_cons, sumW] at this ⊢
    rw [this]; simp
theorem gsum_W {x y : Nat} (l : List Nat) : gSumN [.lst (l.map fun c => .int ((wv x y c : Nat) : Int))] = some (.int ((sumW x y l : Nat) : Int)) := by
  simp only [gSumN, ints_W, Option.map_some, sum_W]
def boxP (x y : Nat) (l : List Nat) : PV := .tup [.str "box", .int ((sumW x y l : Nat) : Int), .str (st l)]
def penP (y : Nat) (cost : Int) : PV := .tup [.str "penalty", .int (y : Int), .int cost, .bl true]
def part (C w : List Nat) (i : Nat) : List Nat := (w.take (C.getD (i + 1) 0)).drop (C.getD i 0)
def rowsU (C w : List Nat) (x y : Nat) (cost : Int) : Nat → List PV
  | 0 => []
  | i + 1 => (rowsU C w x y cost i ++ (if i = 0 then [] else [penP y cost])) ++ [boxP x y (part C w i)]
theorem rowsU_len {C w : List Nat} {x y : Nat} {cost : Int} : ∀ i, (rowsU C w x y cost i).length ≤ 2 * i
  | 0 => by simp [rowsU]
  | i + 1 => by
    have := rowsU_len (C := C) (w := w) (x := x) (y := y) (cost := cost) i
    simp only [rowsU, List.length_append, List.length_singleton]
    split <;> simp <;> omega
theorem rowsU_emp {C w : List Nat} {x y : Nat} {cost : Int} : ∀ i, (rowsU C w x y cost i).isEmpty = decide (i = 0)
  | 0 => rfl
  | i + 1 => by simp [rowsU]
def pWE (ps : PV) (w C : List Nat) (x y : Nat) (cost : Int) (found : List PV) (sa sp : Sl) : Env := [.sh (.str (st w)), .sh ps, .sh (WP x y), .sh (.int cost), .sh (.lst (nI C)), .ow (.lst found), sa, sp, .un]
theorem pWE_b {ps : PV} {w C : List Nat} {x y : Nat} {cost : Int} {found : List PV} {sp : Option PV} {i : Nat} (hw : abc w) (hl : w.length ≤ 100) (hi : i + 1 < C.length) (hf : found.length ≤ 10000) (he : found.isEmpty = decide (i = 0)) :
    B_word_items_2 (pWE ps w C x y cost found (.sh (.int (i : Int))) (sl sp)) = .nx (pWE ps w C x y cost ((found ++ (if i = 0 then [] else [penP y cost])) ++ [boxP x y (part C w i)]) (.sh (.int (i : Int))) (.sh (.str (st (part C w i))))) := by
  have e1 := ix_nI (l := C) (i := i) (by omega)
  have e2 := ix_nI hi
  rw [show ((i + 1 : Nat) : Int) = (i : Int) + 1 by omega] at e2
  have e3 := cutP_nat w (C.getD i 0) (C.getD (i + 1) 0)
  have hwz := szn (show w.length ≤ 1000000 by omega)
  have S1 : sSet 7 (dSl gSl (dVar 0) (oSome (d2 gIx (dVar 4) (dVar 6))) (oSome (d2 gIx (dVar 4) (dAdd (dVar 6) (dC (.int 1)))))) (pWE ps w C x y cost found (.sh (.int (i : Int))) (sl sp)) = .nx (pWE ps w C x y cost found (.sh (.int (i : Int))) (.sh (.str (st (part C w i))))) := by
    simp [pWE, e1, e2, e3, hwz, part]
    exact cutP_nat _ _ _
  have e4 : gDG (WP x y) (.str ("-" : Str)) = some (.int (y : Int)) := by
    rw [show ("-" : Str) = st [45] by decide +kernel, gd_W (by omega)]; rfl
  have hfz : found.length < sizeLine := szl (by omega)
  have S2 : sIf (bTruV 5) (sExpr (dMut "list" gAppend 5 (dCons (dTup (dCons (dC (.str ("penalty" : Str))) (dCons (d2l gDG 2 (dC (.str ("-" : Str)))) (dCons (dVar 3) (dCons (dC (.bl true)) dNil))))) dNil))) sNx (pWE ps w C x y cost found (.sh (.int (i : Int))) (.sh (.str (st (part C w i))))) = .nx (pWE ps w C x y cost (found ++ (if i = 0 then [] else [penP y cost])) (.sh (.int (i : Int))) (.sh (.str (st (part C w i))))) := by
    by_cases h0 : i = 0
    · simp [pWE, he, h0, truth]
    · have h1 : (0 : Int) < (i : Int) := by omega
      have h2 : 0 < i := by omega
      simp [pWE, he, h0, h1, h2, truth, e4, hfz, penP, szn (show 4 ≤ 1000000 by omega)]
  have hp : ∀ c ∈ part C w i, lt4 c := fun c hc => by
    have := hw c (List.mem_of_mem_take (List.mem_of_mem_drop hc))
    omega
  have hpl : (part C w i).length ≤ 100 := by
    unfold part
    rw [List.length_drop, List.length_take]; omega
  have hgz : (found ++ (if i = 0 then [] else [penP y cost])).length < sizeLine := szl (by rw [List.length_append]; split <;> simp <;> omega)
  have S3 : ∀ f2 : List PV, f2.length < sizeLine → sExpr (dMut "list" gAppend 5 (dCons (dTup (dCons (dC (.str ("box" : Str))) (dCons (dN gSumN (dCons (dLc ([(("sign" : Str), 8)].map (·.2)) (iSeq (dVar 7)) (gName 8) bYes E_word_items_3) dNil)) (dCons (dVar 7) dNil)))) dNil)) (pWE ps w C x y cost f2 (.sh (.int (i : Int))) (.sh (.str (st (part C w i))))) = .nx (pWE ps w C x y cost (f2 ++ [boxP x y (part C w i)]) (.sh (.int (i : Int))) (.sh (.str (st (part C w i))))) := by
    intro f2 hf2
    have lc := lc_map (own := [8]) (tg := gName 8) (E := E_word_items_3) (fun c => PV.str (st [c])) (fun c => .int ((wv x y c : Nat) : Int)) (lockE [8] (pWE ps w C x y cost f2 (.sh (.int (i : Int))) (.sh (.str (st (part C w i)))))) (part C w i) (fun c hc => by
      refine ⟨_, (lockE [8] (pWE ps w C x y cost f2 (.sh (.int (i : Int))) (.sh (.str (st (part C w i)))))).set 8 (.sh (.str (st [c]))), rfl, ?_, ?_, ?_⟩
      · simp [E_word_items_3, pWE, lockE, Sl.lock, gd_W (hp c hc)]
      · simp [pWE, lockE, Sl.lock, noOw, Sl.isOw]
      · simp [pWE, lockE, Sl.lock, wipeE])
    simp only [pWE, lockE, List.map_cons, List.map_nil, Sl.lock, sl_lock, List.set_cons_succ, List.set_cons_zero] at lc
    simp [pWE, hf2, lockE, Sl.lock, lc, show (part C w i).length ≤ 1000000 by omega, gsum_W, boxP, szn (show 3 ≤ 1000000 by omega), backE, List.range, List.range.loop, Sl.back, clean]
  unfold B_word_items_2
  rw [seq_nx S1, seq_nx S2, S3 _ hgz]
def lWE (a0 a2 a4 a5 a6 a7 : PV) (ds : List Int) (w C : List Nat) (x y : Nat) (cost : Int) (found : List PV) (sa sp : Sl) : Env := [.sh a0, .ow (dk ds), .sh a2, .sh (.str (st w)), .sh a4, .sh a5, .sh a6, .sh a7, .sh (WP x y), .sh (.int cost), .sh (.lst (nI C)), .ow (.lst found), sa, sp, .un, .un, .un, .un, .un, .un, .un]
theorem lWE_b {a0 a2 a4 a5 a6 a7 : PV} {ds : List Int} {w C : List Nat} {x y : Nat} {cost : Int} {found : List PV} {sp : Option PV} {i : Nat} (hw : abc w) (hl : w.length ≤ 100) (hi : i + 1 < C.length) (hf : found.length ≤ 10000) :
    B_law_5 (lWE a0 a2 a4 a5 a6 a7 ds w C x y cost found (.sh (.int (i : Int))) (sl sp)) = .nx (lWE a0 a2 a4 a5 a6 a7 ds w C x y cost ((found ++ (if i = 0 then [] else [penP y cost])) ++ [boxP x y (part C w i)]) (.sh (.int (i : Int))) (.sh (.str (st (part C w i))))) := by
  have e1 := ix_nI (l := C) (i := i) (by omega)
  have e2 := ix_nI hi
  rw [show ((i + 1 : Nat) : Int) = (i : Int) + 1 by omega] at e2
  have e3 := cutP_nat w (C.getD i 0) (C.getD (i + 1) 0)
  have hwz := szn (show w.length ≤ 1000000 by omega)
  have S1 : sSet 13 (dSl gSl (dVar 3) (oSome (d2 gIx (dVar 10) (dVar 12))) (oSome (d2 gIx (dVar 10) (dAdd (dVar 12) (dC (.int 1)))))) (lWE a0 a2 a4 a5 a6 a7 ds w C x y cost found (.sh (.int (i : Int))) (sl sp)) = .nx (lWE a0 a2 a4 a5 a6 a7 ds w C x y cost found (.sh (.int (i : Int))) (.sh (.str (st (part C w i))))) := by
    simp [lWE, e1, e2, e3, hwz, part]
    exact cutP_nat _ _ _
  have e4 : gDG (WP x y) (.str ("-" : Str)) = some (.int (y : Int)) := by
    rw [show ("-" : Str) = st [45] by decide +kernel, gd_W (by omega)]; rfl
  have hfz : found.length < sizeLine := szl (by omega)
  have S2 : sIf (bVal (d2 gGt (dVar 12) (dC (.int 0)))) (sExpr (dMut "list" gAppend 11 (dCons (dTup (dCons (dC (.str ("penalty" : Str))) (dCons (d2l gDG 8 (dC (.str ("-" : Str)))) (dCons (dVar 9) (dCons (dC (.bl true)) dNil))))) dNil))) sNx (lWE a0 a2 a4 a5 a6 a7 ds w C x y cost found (.sh (.int (i : Int))) (.sh (.str (st (part C w i))))) = .nx (lWE a0 a2 a4 a5 a6 a7 ds w C x y cost (found ++ (if i = 0 then [] else [penP y cost])) (.sh (.int (i : Int))) (.sh (.str (st (part C w i))))) := by
    by_cases h0 : i = 0
    · simp [lWE, hl, h0, truth]
    · have h1 : (0 : Int) < (i : Int) := by omega
      have h2 : 0 < i := by omega
      simp [lWE, hl, h0, h1, h2, truth, e4, hfz, penP, szn (show 4 ≤ 1000000 by omega)]
  have hp : ∀ c ∈ part C w i, lt4 c := fun c hc => by
    have := hw c (List.mem_of_mem_take (List.mem_of_mem_drop hc))
    omega
  have hpl : (part C w i).length ≤ 100 := by
    unfold part
    rw [List.length_drop, List.length_take]; omega
  have hgz : (found ++ (if i = 0 then [] else [penP y cost])).length < sizeLine := szl (by rw [List.length_append]; split <;> simp <;> omega)
  have S3 : ∀ f2 : List PV, f2.length < sizeLine → sExpr (dMut "list" gAppend 11 (dCons (dTup (dCons (dC (.str ("box" : Str))) (dCons (dN gSumN (dCons (dLc ([(("sign" : Str), 20)].map (·.2)) (iSeq (dVar 13)) (gName 20) bYes E_law_6) dNil)) (dCons (dVar 13) dNil)))) dNil)) (lWE a0 a2 a4 a5 a6 a7 ds w C x y cost f2 (.sh (.int (i : Int))) (.sh (.str (st (part C w i))))) = .nx (lWE a0 a2 a4 a5 a6 a7 ds w C x y cost (f2 ++ [boxP x y (part C w i)]) (.sh (.int (i : Int))) (.sh (.str (st (part C w i))))) := by
    intro f2 hf2
    have lc := lc_map (own := [20]) (tg := gName 20) (E := E_law_6) (fun c => PV.str (st [c])) (fun c => .int ((wv x y c : Nat) : Int)) (lockE [20] (lWE a0 a2 a4 a5 a6 a7 ds w C x y cost f2 (.sh (.int (i : Int))) (.sh (.str (st (part C w i)))))) (part C w i) (fun c hc => by
      refine ⟨_, (lockE [20] (lWE a0 a2 a4 a5 a6 a7 ds w C x y cost f2 (.sh (.int (i : Int))) (.sh (.str (st (part C w i)))))).set 20 (.sh (.str (st [c]))), rfl, ?_, ?_, ?_⟩
      · simp [E_law_6, lWE, lockE, Sl.lock, gd_W (hp c hc)]
      · simp [lWE, lockE, Sl.lock, noOw, Sl.isOw]
      · simp [lWE, lockE, Sl.lock, wipeE])
    simp only [lWE, lockE, List.map_cons, List.map_nil, Sl.lock, sl_lock, List.set_cons_succ, List.set_cons_zero] at lc
    simp [lWE, hf2, lockE, Sl.lock, lc, show (part C w i).length ≤ 1000000 by omega, gsum_W, boxP, szn (show 3 ≤ 1000000 by omega), backE, List.range, List.range.loop, Sl.back, clean]
  unfold B_law_5
  rw [seq_nx S1, seq_nx S2, S3 _ hgz]
theorem pWE_0 {ps : PV} {w C : List Nat} {x y : Nat} {cost : Int} {n : Nat} (hw : abc w) (hl : w.length ≤ 100) (hn : C.length = n + 1) (hn2 : n ≤ 1000) {oa op : Option PV} :
    ∃ oa' op', dLoop (gName 6) B_word_items_2 (rangeP 0 n) (pWE ps w C x y cost [] (sl oa) (sl op)) = .nx (pWE ps w C x y cost (rowsU C w x y cost n) (sl oa') (sl op')) := by
  obtain ⟨ρ, h1, oa', op', h2⟩ := dLoop_inv (tgt := gName 6) (body := B_word_items_2) (items := rangeP 0 n) (ρ0 := pWE ps w C x y cost [] (sl oa) (sl op))
    (fun i ρ => ∃ oa' op', ρ = pWE ps w C x y cost (rowsU C w x y cost i) (sl oa') (sl op'))
    (fun i z ρ hx hi => by
      obtain ⟨hlt, rfl⟩ := rangeP_get hx
      obtain ⟨oa', op', rfl⟩ := hi
      rw [Int.zero_add]
      have hL := rowsU_len (C := C) (w := w) (x := x) (y := y) (cost := cost) i
      have e := pWE_b (C := C) (w := w) (x := x) (y := y) (cost := cost) (found := rowsU C w x y cost i) (sp := op') (i := i) hw hl (by omega) (by omega) (rowsU_emp i) (ps := ps)
      exact ⟨_, _, rfl, .inl e, some (.int (i : Int)), some (.str (st (part C w i))), rfl⟩) ⟨oa, op, rfl⟩
  rw [rangeP_len] at h2
  subst h2
  exact ⟨oa', op', h1⟩
theorem lWE_0 {a0 a2 a4 a5 a6 a7 : PV} {ds : List Int} {w C : List Nat} {x y : Nat} {cost : Int} {n : Nat} (hw : abc w) (hl : w.length ≤ 100) (hn : C.length = n + 1) (hn2 : n ≤ 1000) {oa op : Option PV} :
    ∃ oa' op', dLoop (gName 12) B_law_5 (rangeP 0 n) (lWE a0 a2 a4 a5 a6 a7 ds w C x y cost [] (sl oa) (sl op)) = .nx (lWE a0 a2 a4 a5 a6 a7 ds w C x y cost (rowsU C w x y cost n) (sl oa') (sl op')) := by
  obtain ⟨ρ, h1, oa', op', h2⟩ := dLoop_inv (tgt := gName 12) (body := B_law_5) (items := rangeP 0 n) (ρ0 := lWE a0 a2 a4 a5 a6 a7 ds w C x y cost [] (sl oa) (sl op))
    (fun i ρ => ∃ oa' op', ρ = lWE a0 a2 a4 a5 a6 a7 ds w C x y cost (rowsU C w x y cost i) (sl oa') (sl op'))
    (fun i z ρ hx hi => by
      obtain ⟨hlt, rfl⟩ := rangeP_get hx
      obtain ⟨oa', op', rfl⟩ := hi
      rw [Int.zero_add]
      have hL := rowsU_len (C := C) (w := w) (x := x) (y := y) (cost := cost) i
      have e := lWE_b (C := C) (w := w) (x := x) (y := y) (cost := cost) (found := rowsU C w x y cost i) (sp := op') (i := i) hw hl (by omega) (by omega)  (a0 := a0) (a2 := a2) (a4 := a4) (a5 := a5) (a6 := a6) (a7 := a7) (ds := ds)
      exact ⟨_, _, rfl, .inl e, some (.int (i : Int)), some (.str (st (part C w i))), rfl⟩) ⟨oa, op, rfl⟩
  rw [rangeP_len] at h2
  subst h2
  exact ⟨oa', op', h1⟩
def CC (w v : List Nat) : List Nat := 0 :: (cutsL v (w.length - 3) ++ [w.length])
theorem cutsL_len {v : List Nat} {i : Nat} : (cutsL v i).length ≤ i := by
  have := List.length_filter_le (fun a => decide (v.getD (a - 1) 0 % 2 = 1)) ((List.range i).map (· + 2))
  rw [List.length_map, List.length_range] at this
  exact this
theorem CC_len {w v : List Nat} : (CC w v).length = (cutsL v (w.length - 3)).length + 1 + 1 := by simp [CC]
def RW (w v : List Nat) (x y : Nat) (cost : Int) : List PV := rowsU (CC w v) w x y cost ((cutsL v (w.length - 3)).length + 1)
theorem F_items_eq {w : List Nat} {pts : List Pat} {x y : Nat} {cost : Int} (hw : abc w) (hne : w ≠ []) (hl : w.length ≤ 100) (hp : ∀ p ∈ pts, p.Ok) (hpl : pts.length ≤ 100) (hc1 : -9999 ≤ cost) (hc2 : cost ≤ 9999) :
    F_word_items [.str (st w), .lst (pts.map fun p => .str (st p.t)), WP x y, .int cost] = .ok (.lst (RW w (due w pts) x y cost)) .non := by
  let PS : PV := .lst (pts.map fun p => .str (st p.t))
  have hF := F_hyphens_eq hw hne hl hp hpl
  have hcl := cutsL_len (v := due w pts) (i := w.length - 3)
  have hCl := CC_len (w := w) (v := due w pts)
  unfold RW
  generalize due w pts = v at *
  obtain ⟨oa, op, e⟩ := pWE_0 (ps := PS) (w := w) (C := CC w v) (x := x) (y := y) (cost := cost) (n := (cutsL v (w.length - 3)).length + 1) hw hl hCl (by omega) (oa := none) (op := none)
  have S0 : sSet 4 (dAdd (dAdd (dLst (dCons (dC (.int 0)) dNil)) (dCall F_hyphens (dCons (dVar 0) (dCons (dVar 1) dNil)))) (dLst (dCons (dN gLenN (dCons (dVar 0) dNil)) dNil))) [.sh (.str (st w)), .sh PS, .sh (WP x y), .sh (.int cost), .un, .un, .un, .un, .un] = .nx [.sh (.str (st w)), .sh PS, .sh (WP x y), .sh (.int cost), .sh (.lst (nI (CC w v))), .un, .un, .un, .un] := by
    simp [PS, hF, szn (show 1 ≤ 1000000 by omega), szn (show w.length ≤ 1000000 by omega), szn (show 1 + (cutsL v (w.length - 3)).length ≤ 1000000 by omega), szn (show (cutsL v (w.length - 3)).length + 1 + 1 ≤ 1000000 by omega), CC, nI]
  have S1 : sIf (bTru (dLc ([(("sign" : Str), 8)].map (·.2)) (iSeq (dAdd (dVar 0) (dC (.str ("-" : Str))))) (gName 8) T_word_items_1 E_word_items_1)) (sRaise ("InvalidLength" : Str) "what" (dC (.str ("widths" : Str)))) sNx [.sh (.str (st w)), .sh PS, .sh (WP x y), .sh (.int cost), .sh (.lst (nI (CC w v))), .un, .un, .un, .un] = .nx [.sh (.str (st w)), .sh PS, .sh (WP x y), .sh (.int cost), .sh (.lst (nI (CC w v))), .un, .un, .un, .un] := by
    have lc := lc_none (own := [8]) (tg := gName 8) (T := T_word_items_1) (E := E_word_items_1) (fun c => PV.str (st [c])) [.sh (.str (st w)), .sh PS, .sh (WP x y), .sh (.int cost), .sh (.lst (nI (CC w v))), .un, .un, .un, .un] (w ++ [45]) (fun c hc => by
      have hc4 : lt4 c := by
        rcases List.mem_append.mp hc with h | h
        · have := hw c h; omega
        · rw [List.mem_singleton.mp h]; omega
      refine ⟨_, [.sh (.str (st w)), .sh PS, .sh (WP x y), .sh (.int cost), .sh (.lst (nI (CC w v))), .un, .un, .un, .sh (.str (st [c]))], rfl, ?_, rfl, rfl⟩
      have h0 : ¬ ((wv x y c : Nat) : Int) < 0 := by omega
      have h1 := gd2_W (x := x) (y := y) (d := .int (-1)) hc4
      have h2 : dGet2v 2 (dVar 8) (dNeg (dC (.int 1))) [.sh (.str (st w)), .sh PS, .sh (WP x y), .sh (.int cost), .sh (.lst (nI (CC w v))), .un, .un, .un, .sh (.str (st [c]))] = .ok (.int ((wv x y c : Nat) : Int)) [.sh (.str (st w)), .sh PS, .sh (WP x y), .sh (.int cost), .sh (.lst (nI (CC w v))), .un, .un, .un, .sh (.str (st [c]))] := by
        have : ∀ d, WP x y = d → dGet2v 2 (dVar 8) (dNeg (dC (.int 1))) [.sh (.str (st w)), .sh PS, .sh d, .sh (.int cost), .sh (.lst (nI (CC w v))), .un, .un, .un, .sh (.str (st [c]))] = opt (gDG2 d (.str (st [c])) (.int (-1))) [.sh (.str (st w)), .sh PS, .sh d, .sh (.int cost), .sh (.lst (nI (CC w v))), .un, .un, .un, .sh (.str (st [c]))] := by
          intro d hd
          subst hd
          unfold WP
          rfl
        rw [this _ rfl, h1]; rfl
      simp [T_word_items_1, h2, h0])
    simp only [List.map_append, List.map_cons, List.map_nil] at lc
    simp [show ("-" : Str) = st [45] by decide +kernel, szn (show w.length + 1 ≤ 1000000 by omega), lockE, Sl.lock, lc, backE, List.range, List.range.loop, Sl.back, clean, truth]
  have S2 : sIf (bNot (bVal (dChain gLe gLe (dNeg (dC (.int 9999))) (dVar 3) (dC (.int 9999))))) (sRaise ("InvalidItems" : Str) "what" (dC (.str ("cost" : Str)))) sNx [.sh (.str (st w)), .sh PS, .sh (WP x y), .sh (.int cost), .sh (.lst (nI (CC w v))), .un, .un, .un, .un] = .nx [.sh (.str (st w)), .sh PS, .sh (WP x y), .sh (.int cost), .sh (.lst (nI (CC w v))), .un, .un, .un, .un] := by
    simp [hc1, hc2]
  have S3 : sSetF 5 (dLst dNil) [.sh (.str (st w)), .sh PS, .sh (WP x y), .sh (.int cost), .sh (.lst (nI (CC w v))), .un, .un, .un, .un] = .nx (pWE PS w (CC w v) x y cost [] (sl none) (sl none)) := by
    simp [pWE, sl]
  have S4 : sFor (iR1 (dCons (dSub (dN gLenN (dCons (dVar 4) dNil)) (dC (.int 1))) dNil)) (gName 6) B_word_items_2 (pWE PS w (CC w v) x y cost [] (sl none) (sl none)) = .nx (pWE PS w (CC w v) x y cost (rowsU (CC w v) w x y cost ((cutsL v (w.length - 3)).length + 1)) (sl oa) (sl op)) := by
    rw [← e]
    have e9 := rg1_nat (n := (cutsL v (w.length - 3)).length + 1) (ρ := pWE PS w (CC w v) x y cost [] (sl none) (sl none)) (by omega)
    rw [show (((cutsL v (w.length - 3)).length + 1 : Nat) : Int) = ((CC w v).length : Int) - 1 by omega] at e9
    simp only [pWE] at e9 ⊢
    simp only [ap_sFor, ap_iR1, ap_dCons, ap_d2, ap_dN, ap_dVar, List.getElem?_cons_succ, List.getElem?_cons_zero, bind_ok, ap_dNil, ap_lenN, ap_lenL, List.length_map, opt_some, ap_dC, ap_subI, e9, bindS_ok]
  have S5 : ∃ ρ, den_word_items [.sh (.str (st w)), .sh PS, .sh (WP x y), .sh (.int cost), .un, .un, .un, .un, .un] = .rt (.lst (rowsU (CC w v) w x y cost ((cutsL v (w.length - 3)).length + 1))) ρ := by
    refine ⟨[.sh (.str (st w)), .sh PS, .sh (WP x y), .sh (.int cost), .sh (.lst (nI (CC w v))), .sh (.lst (rowsU (CC w v) w x y cost ((cutsL v (w.length - 3)).length + 1))), sl oa, sl op, .un], ?_⟩
    unfold den_word_items
    rw [seq_nx S0, seq_nx S1, seq_nx S2, seq_nx S3, seq_nx S4]
    simp [pWE]
  obtain ⟨ρ, S5⟩ := S5
  show (match den_word_items [.sh (.str (st w)), .sh PS, .sh (WP x y), .sh (.int cost), .un, .un, .un, .un, .un] with | .rt p ρ => fin0 false p ρ | .nx ρ => if false = true then FR.bad else fin0 false .non ρ | .exc x _ => .exc x | _ => .bad) = _
  rw [S5]
  rfl
def wrongs : List Str := ["", ".", "12", "a11b", "a.b", "A1", "..a", "a-b"]
def others : List Str := ["", "aB", "a."]
def isS (r : FR) (z : Str) : Bool := match r with
  | .ok (.str y) .non => decide (y = z)
  | _ => false
theorem ref1 : ((List.range 3).all fun k => wrongs.all fun u => isS (F__law_refusal [.int k, .str "A", .lst [.str "a1b", .str u], .dic false [] [], .int 0]) "pattern") = true := by kernel_rfl
theorem ref2 : ((List.range 3).all fun k => others.all fun u => isS (F__law_refusal [.int k, .str u, .lst [], .dic false [] [], .int 0]) "word") = true := by kernel_rfl
theorem ref3 : isS (F__law_refusal [.int 2, .str "ab", .lst [], .dic false [.str "a", .str "-"] [.int 1, .int 1], .int 99999]) "widths" = true := by kernel_rfl
theorem ref4 : isS (F__law_refusal [.int 2, .str "a", .lst [], .dic false [.str "a", .str "-"] [.int 1, .int (-1)], .int 0]) "widths" = true := by kernel_rfl
theorem ref5 : isS (F__law_refusal [.int 2, .str "a", .lst [], .dic false [.str "a", .str "-"] [.int 1, .int 1], .int 10000]) "cost" = true := by kernel_rfl
/-! ### the law -/
def LE (a0 a2 : PV) (ds : List Int) (s3 s4 s5 s6 s7 s8 s9 s10 s11 s12 s13 : Sl) : Env := [.sh a0, .ow (dk ds), .sh a2, s3, s4, s5, s6, s7, s8, s9, s10, s11, s12, s13, .un, .un, .un, .un, .un, .un, .un]
theorem okD_nI {n : Nat} {v : List Nat} (h : v.length ≤ 100000) : okD (n + 2) (.lst (nI v)) = true := by
  have h2 : okDs (n + 1) (nI v) = true := okDs_iff.mpr fun p hp => by
    obtain ⟨d, _, e⟩ := List.mem_map.mp hp
    subst e; rfl
  have h1 : (nI v).length ≤ 100000 := by rw [List.length_map]; exact h
  unfold okD
  simp only [h1, h2, decide_true, Bool.and_self]
theorem okD_rows {C w : List Nat} {x y : Nat} {cost : Int} (hw : abc w) : ∀ i, i ≤ 1000 → okD 5 (.lst (rowsU C w x y cost i)) = true := by
  intro i hi
  have h1 : (rowsU C w x y cost i).length ≤ 100000 := by have := rowsU_len (C := C) (w := w) (x := x) (y := y) (cost := cost) i; omega
  have hb : PyData.canLay0 (.str "box") = true := by decide +kernel
  have hp : PyData.canLay0 (.str "penalty") = true := by decide +kernel
  have h2 : ∀ i, ∀ p ∈ rowsU C w x y cost i, okD 4 p = true := by
    intro i
    induction i with
    | zero => intro p h; cases h
    | succ i ih =>
      intro p h
      rcases List.mem_append.mp h with h | h
      · rcases List.mem_append.mp h with h | h
        · exact ih p h
        · split at h
          · cases h
          · rw [List.mem_singleton.mp h]
            simp [okD, okDs, penP, hp]
      · rw [List.mem_singleton.mp h]
        have hs : PyData.canLay0 (.str (st (part C w i))) = true := by
          simp only [PyData.canLay0]
          exact strOk_st fun c hc => asc_abc hw c (List.mem_of_mem_take (List.mem_of_mem_drop hc))
        simp [okD, okDs, boxP, hb, hs]
  have h3 : okDs 4 (rowsU C w x y cost i) = true := okDs_iff.mpr (h2 i)
  unfold okD
  simp only [h1, h3, decide_true, Bool.and_self]
def Turn (ρ : Env) : Prop := ∃ (a0 a2 : PV) (ds : List Int) (o3 o4 o5 o6 o7 o8 o9 o10 o11 o12 o13 : Option PV), ρ = LE a0 a2 ds (sl o3) (sl o4) (sl o5) (sl o6) (sl o7) (sl o8) (sl o9) (sl o10) (sl o11) (sl o12) (sl o13)
theorem turn_ok {ρ : Env} (h : Turn ρ) : ∃ ρ', B_law_1 ρ = .nx ρ' ∧ Turn ρ' := by
  obtain ⟨a0, a2, ds, o3, o4, o5, o6, o7, o8, o9, o10, o11, o12, o13, rfl⟩ := h
  -- the word
  obtain ⟨w, ds1, hw, hw1, hw2, e1⟩ := F_word_eq (ds := ds) (m := 9) (by omega) (by omega)
  have e1 : F__law_word [dk ds, .int 9] = .ok (.str (st w)) (dk ds1) := e1
  have hne : w ≠ [] := by intro z; rw [z] at hw1; simp at hw1
  have S1 : sSet 3 (dCallIo F__law_word 1 (dCons (dC (.int 9)) dNil)) (LE a0 a2 ds (sl o3) (sl o4) (sl o5) (sl o6) (sl o7) (sl o8) (sl o9) (sl o10) (sl o11) (sl o12) (sl o13)) = .nx (LE a0 a2 ds1 (.sh (.str (st w))) (sl o4) (sl o5) (sl o6) (sl o7) (sl o8) (sl o9) (sl o10) (sl o11) (sl o12) (sl o13)) := by
    simp [LE, e1]
  -- the patterns
  obtain ⟨m, ds2, hm, e2⟩ := F_take_nat ds1 9 (by omega)
  have e2 : F_take [dk ds1, .int 9] = .ok (.int (m : Int)) (dk ds2) := e2
  obtain ⟨ys, ρ, h1, pts, ds3, h2, h3, h4, h5⟩ := lcLoop_inv (own := [18]) (tgt := gName 18) (test := bYes) (elt := E_law_2) (items := rangeP 0 m)
    (fun i ys ρ => ∃ (pts : List Pat) (ds3 : List Int), (∀ p ∈ pts, p.Ok) ∧ pts.length = i ∧ ys = pts.map patP ∧ ρ = lockE [18] (LE a0 a2 ds3 (.sh (.str (st w))) (sl o4) (sl o5) (sl o6) (sl o7) (sl o8) (sl o9) (sl o10) (sl o11) (sl o12) (sl o13)))
    (fun i z ys ρ hx hi => by
      obtain ⟨pts, ds3, h2, h3, h4, rfl⟩ := hi
      obtain ⟨s, l, dn, t, ds4, k1, k2, k3, k4, k5, k6⟩ := F_pattern_eq ds3
      refine ⟨_, rfl, .inl ⟨_, patP ⟨s, dn, t, l⟩, (lockE [18] (LE a0 a2 ds4 (.sh (.str (st w))) (sl o4) (sl o5) (sl o6) (sl o7) (sl o8) (sl o9) (sl o10) (sl o11) (sl o12) (sl o13))).set 18 (.sh z), rfl, ?_, ?_, pts ++ [⟨s, dn, t, l⟩], ds4, ?_, ?_, ?_, ?_⟩⟩
      · simp [E_law_2, LE, lockE, k6, patP]
      · simp [LE, lockE, noOw]
      · intro p hp
        rcases List.mem_append.mp hp with hp | hp
        · exact h2 p hp
        · rw [List.mem_singleton.mp hp]; exact ⟨k1, k2, k4, k5⟩
      · rw [List.length_append, h3]; rfl
      · rw [h4, List.map_append]; rfl
      · simp [LE, lockE, wipeE])
    (ρ0 := lockE [18] (LE a0 a2 ds2 (.sh (.str (st w))) (sl o4) (sl o5) (sl o6) (sl o7) (sl o8) (sl o9) (sl o10) (sl o11) (sl o12) (sl o13))) (ys0 := []) ⟨[], ds2, (fun _ h => nomatch h), rfl, rfl, rfl⟩
  rw [List.nil_append] at h4
  rw [rangeP_len] at h3
  subst h4 h5
  have S2 : sSet 4 (dLc ([(("again" : Str), 18)].map (·.2)) (iR1 (dCons (dCallIo F__law_take 1 (dCons (dC (.int 9)) dNil)) dNil)) (gName 18) bYes E_law_2) (LE a0 a2 ds1 (.sh (.str (st w))) (sl o4) (sl o5) (sl o6) (sl o7) (sl o8) (sl o9) (sl o10) (sl o11) (sl o12) (sl o13)) = .nx (LE a0 a2 ds3 (.sh (.str (st w))) (.sh (.lst (pts.map patP))) (sl o5) (sl o6) (sl o7) (sl o8) (sl o9) (sl o10) (sl o11) (sl o12) (sl o13)) := by
    simp only [LE, lockE, List.map_cons, List.map_nil, lock_sh, lock_ow, lock_un, sl_lock, List.set_cons_succ, List.set_cons_zero] at h1
    simp [LE, e2, rg1_nat (show m ≤ 1000000000 by omega), lockE, h1, h3, show m ≤ 1000000 by omega, backE, List.range, List.range.loop]
  -- their texts
  have S3 : sSet 5 (dLc ([(("pattern" : Str), 19)].map (·.2)) (iSeq (dVar 4)) (gName 19) bYes E_law_3) (LE a0 a2 ds3 (.sh (.str (st w))) (.sh (.lst (pts.map patP))) (sl o5) (sl o6) (sl o7) (sl o8) (sl o9) (sl o10) (sl o11) (sl o12) (sl o13)) = .nx (LE a0 a2 ds3 (.sh (.str (st w))) (.sh (.lst (pts.map patP))) (.sh (.lst (pts.map fun p => .str (st p.t)))) (sl o6) (sl o7) (sl o8) (sl o9) (sl o10) (sl o11) (sl o12) (sl o13)) := by
    have lc := lc_map (own := [19]) (tg := gName 19) (E := E_law_3) patP (fun p => PV.str (st p.t)) (lockE [19] (LE a0 a2 ds3 (.sh (.str (st w))) (.sh (.lst (pts.map patP))) (sl o5) (sl o6) (sl o7) (sl o8) (sl o9) (sl o10) (sl o11) (sl o12) (sl o13))) pts (fun p hp => by
      have e : gIx (patP p) (.int 0) = some (.str (st p.t)) := rfl
      refine ⟨_, (lockE [19] (LE a0 a2 ds3 (.sh (.str (st w))) (.sh (.lst (pts.map patP))) (sl o5) (sl o6) (sl o7) (sl o8) (sl o9) (sl o10) (sl o11) (sl o12) (sl o13))).set 19 (.sh (patP p)), rfl, ?_, ?_, ?_⟩
      · simp [E_law_3, LE, lockE, e]
      · simp [LE, lockE]
      · simp [LE, lockE, wipeE])
    simp only [LE, lockE, List.map_cons, List.map_nil, lock_sh, lock_ow, lock_un, sl_lock, List.set_cons_succ, List.set_cons_zero] at lc
    simp [LE, lockE, lc, show pts.length ≤ 1000000 by omega, backE, List.range, List.range.loop]
  -- the values
  have hpl : pts.length ≤ 100 := by omega
  have F1 := F_lvalues_eq hw (show w.length ≤ 100 by omega) h2
  have F2 := F_values_eq hw hne (show w.length ≤ 100 by omega) h2 hpl
  have F3 := F_hyphens_eq hw hne (show w.length ≤ 100 by omega) h2 hpl
  have hvl : (due w pts).length = w.length - 1 := due_len
  have F4 := fun (x y : Nat) (cost : Int) h1 h3 => F_items_eq (x := x) (y := y) (cost := cost) hw hne (show w.length ≤ 100 by omega) h2 hpl h1 h3
  have hcl := cutsL_len (v := due w pts) (i := w.length - 3)
  have S4 : sSet 6 (dCall F__law_values (dCons (dVar 3) (dCons (dVar 4) dNil))) (LE a0 a2 ds3 (.sh (.str (st w))) (.sh (.lst (pts.map patP))) (.sh (.lst (pts.map fun p => .str (st p.t)))) (sl o6) (sl o7) (sl o8) (sl o9) (sl o10) (sl o11) (sl o12) (sl o13)) = .nx (LE a0 a2 ds3 (.sh (.str (st w))) (.sh (.lst (pts.map patP))) (.sh (.lst (pts.map fun p => .str (st p.t)))) (.sh (.lst (nI (due w pts)))) (sl o7) (sl o8) (sl o9) (sl o10) (sl o11) (sl o12) (sl o13)) := by
    simp [LE, F1]
  generalize due w pts = v at *
  have okv : okD 5 (.lst (nI v)) = true := okD_nI (n := 3) (by omega)
  have P1 := ap_plain okv
  have N1 := plain_ne okv (by omega)
  have S5 : sIf (bVal (d2 gNe (dCall F__law_plain (dCons (dCall F_values_in (dCons (dVar 3) (dCons (dN gListOf (dCons (dVar 5) dNil)) dNil))) dNil)) (dCall F__law_plain (dCons (dVar 6) dNil)))) (sRet (dC (.bl false))) sNx (LE a0 a2 ds3 (.sh (.str (st w))) (.sh (.lst (pts.map patP))) (.sh (.lst (pts.map fun p => .str (st p.t)))) (.sh (.lst (nI v))) (sl o7) (sl o8) (sl o9) (sl o10) (sl o11) (sl o12) (sl o13)) = .nx (LE a0 a2 ds3 (.sh (.str (st w))) (.sh (.lst (pts.map patP))) (.sh (.lst (pts.map fun p => .str (st p.t)))) (.sh (.lst (nI v))) (sl o7) (sl o8) (sl o9) (sl o10) (sl o11) (sl o12) (sl o13)) := by
    simp [LE, F2, P1, N1, gListOf]
  -- the cuts
  obtain ⟨ys, ρ, g1, g2, g3⟩ := lcLoop_inv (own := [12]) (tgt := gName 12) (test := T_law_4) (elt := E_law_4) (items := rangeP 2 (w.length - 3))
    (fun i ys ρ => ys = nI (cutsL v i) ∧ ρ = lockE [12] (LE a0 a2 ds3 (.sh (.str (st w))) (.sh (.lst (pts.map patP))) (.sh (.lst (pts.map fun p => .str (st p.t)))) (.sh (.lst (nI v))) (sl o7) (sl o8) (sl o9) (sl o10) (sl o11) (sl o12) (sl o13)))
    (fun i z ys ρ hx hi => by
      obtain ⟨hlt, rfl⟩ := rangeP_get hx
      obtain ⟨rfl, rfl⟩ := hi
      have e1 := ix_nI (l := v) (i := i + 1) (by omega)
      rw [show ((i + 1 : Nat) : Int) = 2 + (i : Int) - 1 by omega] at e1
      have T : T_law_4 ((lockE [12] (LE a0 a2 ds3 (.sh (.str (st w))) (.sh (.lst (pts.map patP))) (.sh (.lst (pts.map fun p => .str (st p.t)))) (.sh (.lst (nI v))) (sl o7) (sl o8) (sl o9) (sl o10) (sl o11) (sl o12) (sl o13))).set 12 (.sh (.int (2 + (i : Int))))) = .ok (decide (v.getD (i + 1) 0 % 2 = 1)) ((lockE [12] (LE a0 a2 ds3 (.sh (.str (st w))) (.sh (.lst (pts.map patP))) (.sh (.lst (pts.map fun p => .str (st p.t)))) (.sh (.lst (nI v))) (sl o7) (sl o8) (sl o9) (sl o10) (sl o11) (sl o12) (sl o13))).set 12 (.sh (.int (2 + (i : Int))))) := by
        have e2 : decide (((v.getD (i + 1) 0 : Nat) : Int) % 2 = 1) = decide (v.getD (i + 1) 0 % 2 = 1) := decide_eq_decide.mpr (mod2 _)
        simp only [LE, lockE, List.map_cons, List.map_nil, lock_sh, lock_ow, lock_un, sl_lock, List.set_cons_succ, List.set_cons_zero, T_law_4, ap_bVal, ap_d2, ap_dN, ap_dCons, ap_dVar, List.getElem?_cons_succ, List.getElem?_cons_zero, bind_ok, ap_dC, ap_subI, opt_some, e1, ap_dNil, ap_intI, ap_modI, show decide ((0 : Int) < 2) = true from rfl, if_true, ap_eqI, ap_bool, e2]
      refine ⟨_, rfl, ?_⟩
      by_cases ho : v.getD (i + 1) 0 % 2 = 1
      · rw [decide_eq_true ho] at T
        refine .inl ⟨_, .int ((i + 2 : Nat) : Int), ((lockE [12] (LE a0 a2 ds3 (.sh (.str (st w))) (.sh (.lst (pts.map patP))) (.sh (.lst (pts.map fun p => .str (st p.t)))) (.sh (.lst (nI v))) (sl o7) (sl o8) (sl o9) (sl o10) (sl o11) (sl o12) (sl o13))).set 12 (.sh (.int (2 + (i : Int))))), T, ?_, ?_, ?_, ?_⟩
        · simp [E_law_4, LE, lockE]; omega
        · simp [LE, lockE]
        · rw [cutsL_succ, if_pos ho]; simp [nI]
        · simp [LE, lockE, wipeE]
      · rw [decide_eq_false ho] at T
        refine .inr ⟨_, T, ?_, ?_, ?_⟩
        · simp [LE, lockE]
        · rw [cutsL_succ, if_neg ho]; simp [nI]
        · simp [LE, lockE, wipeE])
    (ρ0 := lockE [12] (LE a0 a2 ds3 (.sh (.str (st w))) (.sh (.lst (pts.map patP))) (.sh (.lst (pts.map fun p => .str (st p.t)))) (.sh (.lst (nI v))) (sl o7) (sl o8) (sl o9) (sl o10) (sl o11) (sl o12) (sl o13))) (ys0 := []) ⟨rfl, rfl⟩
  rw [List.nil_append, rangeP_len] at g2
  subst g2 g3
  have S6 : sSet 7 (dLc ([(("at" : Str), 12)].map (·.2)) (iR2 (dCons (dC (.int 2)) (dCons (dSub (dN gLenN (dCons (dVar 3) dNil)) (dC (.int 1))) dNil))) (gName 12) T_law_4 E_law_4) (LE a0 a2 ds3 (.sh (.str (st w))) (.sh (.lst (pts.map patP))) (.sh (.lst (pts.map fun p => .str (st p.t)))) (.sh (.lst (nI v))) (sl o7) (sl o8) (sl o9) (sl o10) (sl o11) (sl o12) (sl o13)) = .nx (LE a0 a2 ds3 (.sh (.str (st w))) (.sh (.lst (pts.map patP))) (.sh (.lst (pts.map fun p => .str (st p.t)))) (.sh (.lst (nI v))) (.sh (.lst (nI (cutsL v (w.length - 3))))) (sl o8) (sl o9) (sl o10) (sl o11) (sl o12) (sl o13)) := by
    simp only [LE, lockE, List.map_cons, List.map_nil, lock_sh, lock_ow, lock_un, sl_lock, List.set_cons_succ, List.set_cons_zero] at g1
    have e9 := rg2_ok (i := 2) (j := (w.length : Int) - 1) (ρ := LE a0 a2 ds3 (.sh (.str (st w))) (.sh (.lst (pts.map patP))) (.sh (.lst (pts.map fun p => .str (st p.t)))) (.sh (.lst (nI v))) (sl o7) (sl o8) (sl o9) (sl o10) (sl o11) (sl o12) (sl o13)) (by omega) (by omega) (by omega) (by omega)
    rw [show ((w.length : Int) - 1 - 2).toNat = w.length - 3 by omega] at e9
    simp only [LE] at e9
    simp [LE, e9, szn (show w.length ≤ 1000000 by omega), lockE, g1, show (cutsL v (w.length - 3)).length ≤ 1000000 by omega, backE, List.range, List.range.loop]
  have okc : okD 5 (.lst (nI (cutsL v (w.length - 3)))) = true := okD_nI (n := 3) (by omega)
  have P2 := ap_plain okc
  have N2 := plain_ne okc (by omega)
  have S7 : sIf (bVal (d2 gNe (dCall F__law_plain (dCons (dCall F_hyphens (dCons (dVar 3) (dCons (dVar 5) dNil))) dNil)) (dCall F__law_plain (dCons (dVar 7) dNil)))) (sRet (dC (.bl false))) sNx (LE a0 a2 ds3 (.sh (.str (st w))) (.sh (.lst (pts.map patP))) (.sh (.lst (pts.map fun p => .str (st p.t)))) (.sh (.lst (nI v))) (.sh (.lst (nI (cutsL v (w.length - 3))))) (sl o8) (sl o9) (sl o10) (sl o11) (sl o12) (sl o13)) = .nx (LE a0 a2 ds3 (.sh (.str (st w))) (.sh (.lst (pts.map patP))) (.sh (.lst (pts.map fun p => .str (st p.t)))) (.sh (.lst (nI v))) (.sh (.lst (nI (cutsL v (w.length - 3))))) (sl o8) (sl o9) (sl o10) (sl o11) (sl o12) (sl o13)) := by
    simp [LE, F3, P2, N2]
  -- the widths, the cost
  obtain ⟨x, ds4, hx, e3⟩ := F_take_nat ds3 9 (by omega)
  have e3 : F_take [dk ds3, .int 9] = .ok (.int (x : Int)) (dk ds4) := e3
  obtain ⟨y, ds5, hy, e4⟩ := F_take_nat ds4 3 (by omega)
  have e4 : F_take [dk ds4, .int 3] = .ok (.int (y : Int)) (dk ds5) := e4
  obtain ⟨q, ds6, hq, e5⟩ := F_take_nat ds5 200 (by omega)
  have e5 : F_take [dk ds5, .int 200] = .ok (.int (q : Int)) (dk ds6) := e5
  have nd : nodupK [.str (st [97]), .str (st [98]), .str (st [99]), .str (st [45])] = true := by decide +kernel
  have S8 : sSet 8 (dDisp [((dC (.str ("a" : Str))), (dCallIo F__law_take 1 (dCons (dC (.int 9)) dNil))), ((dC (.str ("b" : Str))), (dC (.int 4))), ((dC (.str ("c" : Str))), (dC (.int 5))), ((dC (.str ("-" : Str))), (dCallIo F__law_take 1 (dCons (dC (.int 3)) dNil)))]) (LE a0 a2 ds3 (.sh (.str (st w))) (.sh (.lst (pts.map patP))) (.sh (.lst (pts.map fun p => .str (st p.t)))) (.sh (.lst (nI v))) (.sh (.lst (nI (cutsL v (w.length - 3))))) (sl o8) (sl o9) (sl o10) (sl o11) (sl o12) (sl o13)) = .nx (LE a0 a2 ds5 (.sh (.str (st w))) (.sh (.lst (pts.map patP))) (.sh (.lst (pts.map fun p => .str (st p.t)))) (.sh (.lst (nI v))) (.sh (.lst (nI (cutsL v (w.length - 3))))) (.sh (WP x y)) (sl o9) (sl o10) (sl o11) (sl o12) (sl o13)) := by
    rw [show ("a" : Str) = st [97] by decide +kernel, show ("b" : Str) = st [98] by decide +kernel, show ("c" : Str) = st [99] by decide +kernel, show ("-" : Str) = st [45] by decide +kernel]
    simp [LE, dDisp, dPairs, lockE, e3, e4, nd, WP, backE, List.range, List.range.loop]
  have S9 : sSet 9 (dSub (dCallIo F__law_take 1 (dCons (dC (.int 200)) dNil)) (dC (.int 100))) (LE a0 a2 ds5 (.sh (.str (st w))) (.sh (.lst (pts.map patP))) (.sh (.lst (pts.map fun p => .str (st p.t)))) (.sh (.lst (nI v))) (.sh (.lst (nI (cutsL v (w.length - 3))))) (.sh (WP x y)) (sl o9) (sl o10) (sl o11) (sl o12) (sl o13)) = .nx (LE a0 a2 ds6 (.sh (.str (st w))) (.sh (.lst (pts.map patP))) (.sh (.lst (pts.map fun p => .str (st p.t)))) (.sh (.lst (nI v))) (.sh (.lst (nI (cutsL v (w.length - 3))))) (.sh (WP x y)) (.sh (.int ((q : Int) - 100))) (sl o10) (sl o11) (sl o12) (sl o13)) := by
    simp [LE, e5]
  have S10 : sSet 10 (dAdd (dAdd (dLst (dCons (dC (.int 0)) dNil)) (dVar 7)) (dLst (dCons (dN gLenN (dCons (dVar 3) dNil)) dNil))) (LE a0 a2 ds6 (.sh (.str (st w))) (.sh (.lst (pts.map patP))) (.sh (.lst (pts.map fun p => .str (st p.t)))) (.sh (.lst (nI v))) (.sh (.lst (nI (cutsL v (w.length - 3))))) (.sh (WP x y)) (.sh (.int ((q : Int) - 100))) (sl o10) (sl o11) (sl o12) (sl o13)) = .nx (LE a0 a2 ds6 (.sh (.str (st w))) (.sh (.lst (pts.map patP))) (.sh (.lst (pts.map fun p => .str (st p.t)))) (.sh (.lst (nI v))) (.sh (.lst (nI (cutsL v (w.length - 3))))) (.sh (WP x y)) (.sh (.int ((q : Int) - 100))) (.sh (.lst (nI (CC w v)))) (sl o11) (sl o12) (sl o13)) := by
    simp [LE, szn (show 1 ≤ 1000000 by omega), szn (show w.length ≤ 1000000 by omega), szn (show 1 + (cutsL v (w.length - 3)).length ≤ 1000000 by omega), szn (show (cutsL v (w.length - 3)).length + 1 + 1 ≤ 1000000 by omega), CC, nI]
  have S11 : sSetF 11 (dLst dNil) (LE a0 a2 ds6 (.sh (.str (st w))) (.sh (.lst (pts.map patP))) (.sh (.lst (pts.map fun p => .str (st p.t)))) (.sh (.lst (nI v))) (.sh (.lst (nI (cutsL v (w.length - 3))))) (.sh (WP x y)) (.sh (.int ((q : Int) - 100))) (.sh (.lst (nI (CC w v)))) (sl o11) (sl o12) (sl o13)) = .nx (lWE a0 a2 (.lst (pts.map patP)) (.lst (pts.map fun p => .str (st p.t))) (.lst (nI v)) (.lst (nI (cutsL v (w.length - 3)))) ds6 w (CC w v) x y ((q : Int) - 100) [] (sl o12) (sl o13)) := by
    simp [LE, lWE]
  have hCl := CC_len (w := w) (v := v)
  obtain ⟨oa, op, e6⟩ := lWE_0 (a0 := a0) (a2 := a2) (a4 := .lst (pts.map patP)) (a5 := .lst (pts.map fun p => .str (st p.t))) (a6 := .lst (nI v)) (a7 := .lst (nI (cutsL v (w.length - 3)))) (ds := ds6) (w := w) (C := CC w v) (x := x) (y := y) (cost := (q : Int) - 100) (n := (cutsL v (w.length - 3)).length + 1) hw (by omega) hCl (by omega) (oa := o12) (op := o13)
  have S12 : sFor (iR1 (dCons (dSub (dN gLenN (dCons (dVar 10) dNil)) (dC (.int 1))) dNil)) (gName 12) B_law_5 (lWE a0 a2 (.lst (pts.map patP)) (.lst (pts.map fun p => .str (st p.t))) (.lst (nI v)) (.lst (nI (cutsL v (w.length - 3)))) ds6 w (CC w v) x y ((q : Int) - 100) [] (sl o12) (sl o13)) = .nx (lWE a0 a2 (.lst (pts.map patP)) (.lst (pts.map fun p => .str (st p.t))) (.lst (nI v)) (.lst (nI (cutsL v (w.length - 3)))) ds6 w (CC w v) x y ((q : Int) - 100) (RW w v x y ((q : Int) - 100)) (sl oa) (sl op)) := by
    unfold RW
    rw [← e6]
    have e9 := rg1_nat (n := (cutsL v (w.length - 3)).length + 1) (ρ := lWE a0 a2 (.lst (pts.map patP)) (.lst (pts.map fun p => .str (st p.t))) (.lst (nI v)) (.lst (nI (cutsL v (w.length - 3)))) ds6 w (CC w v) x y ((q : Int) - 100) [] (sl o12) (sl o13)) (by omega)
    rw [show (((cutsL v (w.length - 3)).length + 1 : Nat) : Int) = ((CC w v).length : Int) - 1 by omega] at e9
    simp only [lWE] at e9 ⊢
    simp only [ap_sFor, ap_iR1, ap_dCons, ap_d2, ap_dN, ap_dVar, List.getElem?_cons_succ, List.getElem?_cons_zero, bind_ok, ap_dNil, ap_lenN, ap_lenL, List.length_map, opt_some, ap_dC, ap_subI, e9, bindS_ok]
  have okr : okD 5 (.lst (RW w v x y ((q : Int) - 100))) = true := okD_rows hw _ (by omega)
  have P3 := ap_plain okr
  have N3 := plain_ne okr (by omega)
  have F4 := F4 x y ((q : Int) - 100) (by omega) (by omega)
  have S13 : sIf (bVal (d2 gNe (dCall F__law_plain (dCons (dCall F_word_items (dCons (dVar 3) (dCons (dVar 5) (dCons (dVar 8) (dCons (dVar 9) dNil))))) dNil)) (dCall F__law_plain (dCons (dVar 11) dNil)))) (sRet (dC (.bl false))) sNx (lWE a0 a2 (.lst (pts.map patP)) (.lst (pts.map fun p => .str (st p.t))) (.lst (nI v)) (.lst (nI (cutsL v (w.length - 3)))) ds6 w (CC w v) x y ((q : Int) - 100) (RW w v x y ((q : Int) - 100)) (sl oa) (sl op)) = .nx (LE a0 a2 ds6 (.sh (.str (st w))) (.sh (.lst (pts.map patP))) (.sh (.lst (pts.map fun p => .str (st p.t)))) (.sh (.lst (nI v))) (.sh (.lst (nI (cutsL v (w.length - 3))))) (.sh (WP x y)) (.sh (.int ((q : Int) - 100))) (.sh (.lst (nI (CC w v)))) (.sh (.lst (RW w v x y ((q : Int) - 100)))) (sl oa) (sl op)) := by
    simp [lWE, LE, F4, P3, N3]
  refine ⟨_, ?_, a0, a2, ds6, some (.str (st w)), some (.lst (pts.map patP)), some (.lst (pts.map fun p => .str (st p.t))), some (.lst (nI v)), some (.lst (nI (cutsL v (w.length - 3)))), some (WP x y), some (.int ((q : Int) - 100)), some (.lst (nI (CC w v))), some (.lst (RW w v x y ((q : Int) - 100))), oa, op, rfl⟩
  unfold B_law_1
  rw [seq_nx S1, seq_nx S2, seq_nx S3, seq_nx S4, seq_nx S5, seq_nx S6, seq_nx S7, seq_nx S8, seq_nx S9, seq_nx S10, seq_nx S11, seq_nx S12, S13]
  rfl
theorem isS_ok {r : FR} {z : Str} (h : isS r z = true) : r = .ok (.str z) .non := by
  unfold isS at h
  split at h
  · rw [of_decide_eq_true h]
  · cases h
theorem r1 {k : Nat} (hk : k < 3) {u : Str} (hu : u ∈ wrongs) : F__law_refusal [.int k, .str "A", .lst [.str "a1b", .str u], .dic false [] [], .int 0] = .ok (.str "pattern") .non :=
  isS_ok (List.all_eq_true.mp (List.all_eq_true.mp ref1 k (List.mem_range.mpr hk)) u hu)
theorem r2 {k : Nat} (hk : k < 3) {u : Str} (hu : u ∈ others) : F__law_refusal [.int k, .str u, .lst [], .dic false [] [], .int 0] = .ok (.str "word") .non :=
  isS_ok (List.all_eq_true.mp (List.all_eq_true.mp ref2 k (List.mem_range.mpr hk)) u hu)
theorem ix_strs {l : List Str} {m : Nat} (h : m < l.length) : ∃ u ∈ l, gIx (.lst (l.map .str)) (.int (m : Int)) = some (.str u) := by
  refine ⟨l[m], List.getElem_mem h, ?_⟩
  rw [ap_ixL, atI_nat (by simpa using h), List.getElem_map]
theorem end_eq : gEq (.lst [.str "pattern", .str "word", .str "widths", .str "widths", .str "cost"]) (.lst [.str "pattern", .str "word", .str "widths", .str "widths", .str "cost"]) = some (.bl true) := by kernel_rfl
theorem nd2 : nodupK [.str "a", .str "-"] = true := by decide +kernel
theorem top_ok : F_top := by
  intro ns hns
  obtain ⟨ds0, e0⟩ := F_deck_eq (ns := ns) (c := 90) (e := 14) (by rw [sizeLine_eq]; omega) (by omega) (by omega)
  have e0 : F_deck [.klst (ns.map .int), .int 90, .int 14] = .ok (dk ds0) .non := e0
  let a0 : PV := .klst (ns.map .int)
  -- the turns
  have body : ∀ ρ z, Turn ρ → ∃ ρ1 ρ2, gName 2 z ρ = some ρ1 ∧ (B_law_1 ρ1 = .nx ρ2 ∨ B_law_1 ρ1 = .ct ρ2) ∧ Turn ρ2 := by
    intro ρ z h
    obtain ⟨b0, b2, ds, o3, o4, o5, o6, o7, o8, o9, o10, o11, o12, o13, rfl⟩ := h
    obtain ⟨ρ2, k1, k2⟩ := turn_ok (ρ := LE b0 z ds (sl o3) (sl o4) (sl o5) (sl o6) (sl o7) (sl o8) (sl o9) (sl o10) (sl o11) (sl o12) (sl o13)) ⟨_, _, _, _, _, _, _, _, _, _, _, _, _, _, rfl⟩
    exact ⟨_, ρ2, rfl, .inl k1, k2⟩
  obtain ⟨ρ1, ρ2, k1, k2, k3⟩ : ∃ ρ1 ρ2, gName 2 (.int 0) [.sh a0, .ow (dk ds0), .un, .un, .un, .un, .un, .un, .un, .un, .un, .un, .un, .un, .un, .un, .un, .un, .un, .un, .un] = some ρ1 ∧ B_law_1 ρ1 = .nx ρ2 ∧ Turn ρ2 := by
    obtain ⟨ρ2, k1, k2⟩ := turn_ok (ρ := LE a0 (.int 0) ds0 .un .un .un .un .un .un .un .un .un .un .un) ⟨a0, .int 0, ds0, none, none, none, none, none, none, none, none, none, none, none, rfl⟩
    exact ⟨_, ρ2, rfl, k1, k2⟩
  obtain ⟨ρ3, ρ4, k4, k5, k6⟩ := body ρ2 (.int 1) k3
  have hr : rangeP 0 2 = [.int 0, .int 1] := rfl
  have loop : dLoop (gName 2) B_law_1 [.int 0, .int 1] [.sh a0, .ow (dk ds0), .un, .un, .un, .un, .un, .un, .un, .un, .un, .un, .un, .un, .un, .un, .un, .un, .un, .un, .un] = .nx ρ4 := by
    rw [dLoop, k1]
    simp only [k2]
    rw [dLoop, k4]
    rcases k5 with k5 | k5 <;> simp only [k5, dLoop]
  obtain ⟨a0', a2, ds, o3, o4, o5, o6, o7, o8, o9, o10, o11, o12, o13, rfl⟩ := k6
  generalize a0' = a9 at *
  have S1 : (sSetF 1 (dCall F__law_deck (dCons (dVar 0) (dCons (dC (.int 90)) (dCons (dC (.int 14)) dNil))))) [.sh a0, .un, .un, .un, .un, .un, .un, .un, .un, .un, .un, .un, .un, .un, .un, .un, .un, .un, .un, .un, .un] = .nx [.sh a0, .ow (dk ds0), .un, .un, .un, .un, .un, .un, .un, .un, .un, .un, .un, .un, .un, .un, .un, .un, .un, .un, .un] := by
    simp [a0, e0]
  have S2 : (sFor (iR1 (dCons (dC (.int 2)) dNil)) (gName 2) B_law_1) [.sh a0, .ow (dk ds0), .un, .un, .un, .un, .un, .un, .un, .un, .un, .un, .un, .un, .un, .un, .un, .un, .un, .un, .un] = .nx (LE a9 a2 ds (sl o3) (sl o4) (sl o5) (sl o6) (sl o7) (sl o8) (sl o9) (sl o10) (sl o11) (sl o12) (sl o13)) := by
    rw [← loop, ← hr]
    have e9 := rg1_nat (n := 2) (ρ := [.sh a0, .ow (dk ds0), .un, .un, .un, .un, .un, .un, .un, .un, .un, .un, .un, .un, .un, .un, .un, .un, .un, .un, .un]) (by omega)
    have e9 : rg1 [.int 2] [.sh a0, .ow (dk ds0), .un, .un, .un, .un, .un, .un, .un, .un, .un, .un, .un, .un, .un, .un, .un, .un, .un, .un, .un] = _ := e9
    simp [e9]
  obtain ⟨k, ds1, hk, t1⟩ := F_take_nat ds 3 (by omega)
  have t1 : F_take [dk ds, .int 3] = .ok (.int (k : Int)) (dk ds1) := t1
  obtain ⟨m, ds2, hm, t2⟩ := F_take_nat ds1 8 (by omega)
  have t2 : F_take [dk ds1, .int 8] = .ok (.int (m : Int)) (dk ds2) := t2
  obtain ⟨q, ds3, hq, t3⟩ := F_take_nat ds2 3 (by omega)
  have t3 : F_take [dk ds2, .int 3] = .ok (.int (q : Int)) (dk ds3) := t3
  obtain ⟨u, hu, i1⟩ := ix_strs (l := wrongs) (m := m) (by simpa [wrongs] using hm)
  obtain ⟨v, hv, i2⟩ := ix_strs (l := others) (m := q) (by simpa [others] using hq)
  simp only [wrongs, others, List.map_cons, List.map_nil] at i1 i2
  have q1 := r1 hk hu
  have q2 := r2 hk hv
  have q3 := isS_ok ref3
  have q4 := isS_ok ref4
  have q5 := isS_ok ref5
  have S3 : (sSet 14 (dCallIo F__law_take 1 (dCons (dC (.int 3)) dNil))) (LE a9 a2 ds (sl o3) (sl o4) (sl o5) (sl o6) (sl o7) (sl o8) (sl o9) (sl o10) (sl o11) (sl o12) (sl o13)) = .nx [.sh a9, .ow (dk ds1), .sh a2, sl o3, sl o4, sl o5, sl o6, sl o7, sl o8, sl o9, sl o10, sl o11, sl o12, sl o13, .sh (.int (k : Int)), .un, .un, .un, .un, .un, .un] := by
    simp [LE, t1]
  have S4 : (sSet 15 (d2 gIx (dLst (dCons (dC (.str ("" : Str))) (dCons (dC (.str ("." : Str))) (dCons (dC (.str ("12" : Str))) (dCons (dC (.str ("a11b" : Str))) (dCons (dC (.str ("a.b" : Str))) (dCons (dC (.str ("A1" : Str))) (dCons (dC (.str ("..a" : Str))) (dCons (dC (.str ("a-b" : Str))) dNil))))))))) (dCallIo F__law_take 1 (dCons (dC (.int 8)) dNil)))) [.sh a9, .ow (dk ds1), .sh a2, sl o3, sl o4, sl o5, sl o6, sl o7, sl o8, sl o9, sl o10, sl o11, sl o12, sl o13, .sh (.int (k : Int)), .un, .un, .un, .un, .un, .un] = .nx [.sh a9, .ow (dk ds2), .sh a2, sl o3, sl o4, sl o5, sl o6, sl o7, sl o8, sl o9, sl o10, sl o11, sl o12, sl o13, .sh (.int (k : Int)), .sh (.str u), .un, .un, .un, .un, .un] := by
    simp [t2, szn (show 8 ≤ 1000000 by omega), i1, -ap_ixL]
  have S5 : (sSet 16 (d2 gIx (dLst (dCons (dC (.str ("" : Str))) (dCons (dC (.str ("aB" : Str))) (dCons (dC (.str ("a." : Str))) dNil)))) (dCallIo F__law_take 1 (dCons (dC (.int 3)) dNil)))) [.sh a9, .ow (dk ds2), .sh a2, sl o3, sl o4, sl o5, sl o6, sl o7, sl o8, sl o9, sl o10, sl o11, sl o12, sl o13, .sh (.int (k : Int)), .sh (.str u), .un, .un, .un, .un, .un] = .nx [.sh a9, .ow (dk ds3), .sh a2, sl o3, sl o4, sl o5, sl o6, sl o7, sl o8, sl o9, sl o10, sl o11, sl o12, sl o13, .sh (.int (k : Int)), .sh (.str u), .sh (.str v), .un, .un, .un, .un] := by
    simp [t3, szn (show 3 ≤ 1000000 by omega), i2, -ap_ixL]
  have S6 : (sSet 17 (dLst (dCons (dCall F__law_refusal (dCons (dVar 14) (dCons (dC (.str ("A" : Str))) (dCons (dLst (dCons (dC (.str ("a1b" : Str))) (dCons (dVar 15) dNil))) (dCons (dC (.dic false [] [])) (dCons (dC (.int 0)) dNil)))))) (dCons (dCall F__law_refusal (dCons (dVar 14) (dCons (dVar 16) (dCons (dLst dNil) (dCons (dC (.dic false [] [])) (dCons (dC (.int 0)) dNil)))))) dNil)))) [.sh a9, .ow (dk ds3), .sh a2, sl o3, sl o4, sl o5, sl o6, sl o7, sl o8, sl o9, sl o10, sl o11, sl o12, sl o13, .sh (.int (k : Int)), .sh (.str u), .sh (.str v), .un, .un, .un, .un] = .nx [.sh a9, .ow (dk ds3), .sh a2, sl o3, sl o4, sl o5, sl o6, sl o7, sl o8, sl o9, sl o10, sl o11, sl o12, sl o13, .sh (.int (k : Int)), .sh (.str u), .sh (.str v), .sh (.lst [.str "pattern", .str "word"]), .un, .un, .un] := by
    simp [szn (show 2 ≤ 1000000 by omega), q1, q2]
  have S7 : (sSet 17 (dAdd (dVar 17) (dLst (dCons (dCall F__law_refusal (dCons (dC (.int 2)) (dCons (dC (.str ("ab" : Str))) (dCons (dLst dNil) (dCons (dDisp [((dC (.str ("a" : Str))), (dC (.int 1))), ((dC (.str ("-" : Str))), (dC (.int 1)))]) (dCons (dC (.int 99999)) dNil)))))) (dCons (dCall F__law_refusal (dCons (dC (.int 2)) (dCons (dC (.str ("a" : Str))) (dCons (dLst dNil) (dCons (dDisp [((dC (.str ("a" : Str))), (dC (.int 1))), ((dC (.str ("-" : Str))), (dNeg (dC (.int 1))))]) (dCons (dC (.int 0)) dNil)))))) dNil))))) [.sh a9, .ow (dk ds3), .sh a2, sl o3, sl o4, sl o5, sl o6, sl o7, sl o8, sl o9, sl o10, sl o11, sl o12, sl o13, .sh (.int (k : Int)), .sh (.str u), .sh (.str v), .sh (.lst [.str "pattern", .str "word"]), .un, .un, .un] = .nx [.sh a9, .ow (dk ds3), .sh a2, sl o3, sl o4, sl o5, sl o6, sl o7, sl o8, sl o9, sl o10, sl o11, sl o12, sl o13, .sh (.int (k : Int)), .sh (.str u), .sh (.str v), .sh (.lst [.str "pattern", .str "word", .str "widths", .str "widths"]), .un, .un, .un] := by
    simp [dDisp, dPairs, nd2, lockE, backE, List.range, List.range.loop, szn (show 2 ≤ 1000000 by omega), szn (show 4 ≤ 1000000 by omega), q3, q4]
  have S8 : ∃ ρ, (sRet (d2 gEq (dAdd (dVar 17) (dLst (dCons (dCall F__law_refusal (dCons (dC (.int 2)) (dCons (dC (.str ("a" : Str))) (dCons (dLst dNil) (dCons (dDisp [((dC (.str ("a" : Str))), (dC (.int 1))), ((dC (.str ("-" : Str))), (dC (.int 1)))]) (dCons (dC (.int 10000)) dNil)))))) dNil))) (dLst (dCons (dC (.str ("pattern" : Str))) (dCons (dC (.str ("word" : Str))) (dCons (dC (.str ("widths" : Str))) (dCons (dC (.str ("widths" : Str))) (dCons (dC (.str ("cost" : Str))) dNil)))))))) [.sh a9, .ow (dk ds3), .sh a2, sl o3, sl o4, sl o5, sl o6, sl o7, sl o8, sl o9, sl o10, sl o11, sl o12, sl o13, .sh (.int (k : Int)), .sh (.str u), .sh (.str v), .sh (.lst [.str "pattern", .str "word", .str "widths", .str "widths"]), .un, .un, .un] = .rt (.bl true) ρ := by
    refine ⟨[.sh a9, .ow (dk ds3), .sh a2, sl o3, sl o4, sl o5, sl o6, sl o7, sl o8, sl o9, sl o10, sl o11, sl o12, sl o13, .sh (.int (k : Int)), .sh (.str u), .sh (.str v), .sh (.lst [.str "pattern", .str "word", .str "widths", .str "widths"]), .un, .un, .un], ?_⟩
    simp [dDisp, dPairs, nd2, lockE, backE, List.range, List.range.loop, szn (show 1 ≤ 1000000 by omega), szn (show 5 ≤ 1000000 by omega), q5, end_eq]
  obtain ⟨ρ, S8⟩ := S8
  refine ⟨.non, ?_⟩
  have S9 : den_law [.sh a0, .un, .un, .un, .un, .un, .un, .un, .un, .un, .un, .un, .un, .un, .un, .un, .un, .un, .un, .un, .un] = .rt (.bl true) ρ := by
    unfold den_law
    rw [seq_nx S1, seq_nx S2, seq_nx S3, seq_nx S4, seq_nx S5, seq_nx S6, seq_nx S7, S8]
  show (match den_law [.sh a0, .un, .un, .un, .un, .un, .un, .un, .un, .un, .un, .un, .un, .un, .un, .un, .un, .un, .un, .un, .un] with | .rt p ρ => fin0 false p ρ | .nx ρ => if false = true then FR.bad else fin0 false .non ρ | .exc x _ => .exc x | _ => .bad) = _
  rw [S9]
  rfl
end PL.K71

set_option Elab.async false
set_option linter.all false
set_option maxRecDepth 100000
set_option maxHeartbeats 0
open PySem PySem.W PySem.Calls PyProof.Rows
theorem PySem.Challenge.cw_presswork_k71_whole_hyphens_holds : PySem.Challenge.rw_presswork_k71_whole_hyphens.Holds := by
  w_on; o_law
  refine HandSHeadRun.head_any (r := OpenLaw.row PySem.Challenge.rw_presswork_k71_whole_hyphens) (q := view (OpenLaw.row PySem.Challenge.rw_presswork_k71_whole_hyphens).prog [21]) (H := PL.K71.hk) (ob := PL.K71.ob) (M := 3000) (loose := ["PressError", "InvalidLength", "InvalidItems", "InvalidText", "LETTERS", "DIGITS", "parts_of", "check_word", "values_in", "hyphens", "word_items", "_law_deck", "_law_take", "_law_plain", "_law_word", "_law_pattern", "_law_values", "_law_refusal"]) (d := HandSHeadRun.topDef (OpenLaw.row PySem.Challenge.rw_presswork_k71_whole_hyphens).prog 21) (kwd := []) PL.K71.ob_eq
    (by kernel_rfl) (fun s => by kernel_rfl) PL.K71.run (by kernel_rfl) (by kernel_rfl) (by kernel_rfl) (by rfl) (by first | assumption | decide +kernel) (by decide +kernel) ⟨rfl, rfl, rfl, rfl, rfl, by decide +kernel⟩ ?hw ?hc
  case hw => w_witness2
  case hc =>
    refine L2.walk_ofE (l := PySem.Challenge.rw_presswork_k71_whole_hyphens) (n := 63) (k := 8) (x := "script") (CX := PL.CXA PySem.Challenge.pw_presswork_k71_whole_hyphens) rfl (by decide) (by kernel_rfl) ⟨rfl, by decide, by decide⟩ ?F PL.CXA.none
    case F =>
      intro w mg fa h Y G hmg0
      obtain ⟨K, KX, c⟩ := Y
      have hmg : mg ("law" : PySem.Str) = some (.ref fa) := by
        have e : (HandSHeadRun.topDef (OpenLaw.row PySem.Challenge.rw_presswork_k71_whole_hyphens).prog 21).name = ("law" : PySem.Str) := by kernel_rfl
        rw [← e]
        exact hmg0
      obtain ⟨fd, hb, hF⟩ := PL.K71.facts PL.K71.top_ok (P := PySem.Challenge.pw_presswork_k71_whole_hyphens) (w := w) KX G hmg c
      exact ⟨K, fd, PL.spTop K, KX, hb, fun H a ns hl _ hS => ⟨a, ns, rfl, hl, hS, fun _ => rfl⟩, fun base h1 h2 => PL.FnOk.anyW (hF base h1 h2)⟩

