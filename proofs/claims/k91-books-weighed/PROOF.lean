import PyProof.Rows.All
import HandS.ForMost
import HandS.ForExc
import HandS.CallSlots
import HandS.TupAny
import HandS.Deep
import HandS.IsInst
import HandS.ExcInit
import HandS.ExcField
import HandS.TryMany
import HandS.SortInts
import HandS.Wide
import HandS.Flow
import HandS.ExcOwn
import HandS.Defaults
import HandS.HeadHook4
import HandS.HeadEnd
import HandS.Head2
import HandS.Style
import HandS.Gcd
import HandS.Conv
import HandS.SetFor
import HandS.Strs
import HandS.Head3
import PySem.Challenge.RW_presswork_k91_whole_books_weighed_and_se
set_option Elab.async false
set_option linter.all false
set_option maxRecDepth 100000
set_option maxHeartbeats 4000000
namespace PL
open PySem PySem.Spec L2
set_option autoImplicit false

/-! ### plain values and how the heap bears them -/
inductive PV where
  | non | bl (b : Bool) | int (i : Int) | str (x : Str) | lst (xs : List PV) | tup (xs : List PV) | ktup (xs : List PV) | klst (xs : List PV) | dic (t : Bool) (ks : List PV) (vs : List PV) | fn (a : Addr)
instance : Inhabited PV := ⟨.non⟩

def keyPV : Key → PV
  | .inl i => .int i
  | .inr x => .str x
mutual
inductive Rep (K : PySem.W.Frag) (S : Hp) : PV → V → Prop
  | non : Rep K S .non .non
  | bl (b : Bool) : Rep K S (.bl b) (.bl b)
  | int (i : Int) : Rep K S (.int i) (.int i)
  | str (x : Str) : Rep K S (.str x) (.str x)
  | fn (a : Addr) : Rep K S (.fn a) (.ref a)
  | lst {a : Addr} {vs : List V} {ps : List PV} : S a = some (.lst vs) → RepL K S ps vs → Rep K S (.lst ps) (.ref a)
  | tup {a : Addr} {vs : List V} {ps : List PV} : S a = some (.tup vs) → RepL K S ps vs → Rep K S (.tup ps) (.ref a)
  | ktup {a : Addr} {vs : List V} {ps : List PV} : SqT K S a vs → RepL K S ps vs → Rep K S (.ktup ps) (.ref a)
  | klst {a : Addr} {vs : List V} {ps : List PV} : SqL K S a vs → RepL K S ps vs → Rep K S (.klst ps) (.ref a)
  | dK {a : Addr} {kvs : List (Key × V)} {ps : List PV} : S a = some (.dK kvs) → RepL K S ps (kvs.map (·.2)) → Rep K S (.dic false (kvs.map fun p => keyPV p.1) ps) (.ref a)
  | dT {a : Addr} {kvs : List (List Key × V)} {ps : List PV} : S a = some (.dT kvs) → RepL K S ps (kvs.map (·.2)) → Rep K S (.dic true (kvs.map fun p => .tup (p.1.map keyPV)) ps) (.ref a)
inductive RepL (K : PySem.W.Frag) (S : Hp) : List PV → List V → Prop
  | nil : RepL K S [] []
  | cons {p : PV} {v : V} {ps : List PV} {vs : List V} : Rep K S p v → RepL K S ps vs → RepL K S (p :: ps) (v :: vs)
end
theorem Same.tupK {K : PySem.W.Frag} {H H' : Hp} {a : Addr} {xs : List V} (e : Same H H') (h : SqT K H a xs) : SqT K H' a xs := by
  rcases h with (h | ⟨o, h⟩) | h
  · exact .inl (.inl (e _ _ h))
  · exact .inl (.inr ⟨o, e _ _ h⟩)
  · exact .inr h
theorem Same.lstK {K : PySem.W.Frag} {H H' : Hp} {a : Addr} {xs : List V} (e : Same H H') (h : SqL K H a xs) : SqL K H' a xs := by
  rcases h with (h | ⟨o, h⟩) | h
  · exact .inl (.inl (e _ _ h))
  · exact .inl (.inr ⟨o, e _ _ h⟩)
  · exact .inr h
section
variable {K : PySem.W.Frag} {S S' : Hp}
mutual
theorem Rep.mono (e : Same S S') : ∀ (p : PV) (v : V), Rep K S p v → Rep K S' p v
  | .non, _, h => by cases h; exact .non
  | .bl b, _, h => by cases h; exact .bl b
  | .int i, _, h => by cases h; exact .int i
  | .str x, _, h => by cases h; exact .str x
  | .fn a, _, h => by cases h; exact .fn a
  | .lst ps, _, h => by cases h with | lst h1 h2 => exact .lst (e _ _ h1) (RepL.mono e ps _ h2)
  | .tup ps, _, h => by cases h with | tup h1 h2 => exact .tup (e _ _ h1) (RepL.mono e ps _ h2)
  | .ktup ps, _, h => by cases h with | ktup h1 h2 => exact .ktup (Same.tupK e h1) (RepL.mono e ps _ h2)
  | .klst ps, _, h => by cases h with | klst h1 h2 => exact .klst (Same.lstK e h1) (RepL.mono e ps _ h2)
  | .dic t ks ps, _, h => by
    cases h with
    | dK h1 h2 => exact .dK (e _ _ h1) (RepL.mono e ps _ h2)
    | dT h1 h2 => exact .dT (e _ _ h1) (RepL.mono e ps _ h2)
theorem RepL.mono (e : Same S S') : ∀ (ps : List PV) (vs : List V), RepL K S ps vs → RepL K S' ps vs
  | [], _, h => by cases h; exact .nil
  | p :: ps, _, h => by cases h with | cons h1 h2 => exact .cons (Rep.mono e p _ h1) (RepL.mono e ps _ h2)
end
theorem Rep.up (e : Same S S') {p : PV} {v : V} (h : Rep K S p v) : Rep K S' p v := Rep.mono e p v h
theorem RepL.up (e : Same S S') {p : List PV} {v : List V} (h : RepL K S p v) : RepL K S' p v := RepL.mono e p v h
theorem RepL.length : ∀ {ps : List PV} {vs : List V}, RepL K S ps vs → ps.length = vs.length
  | [], _, h => by cases h; rfl
  | _ :: _, _, h => by cases h with | cons _ h2 => simp [RepL.length h2]
theorem RepL.append : ∀ {ps : List PV} {vs : List V} {qs : List PV} {ws : List V}, RepL K S ps vs → RepL K S qs ws → RepL K S (ps ++ qs) (vs ++ ws)
  | [], _, _, _, h, h' => by cases h; exact h'
  | _ :: _, _, _, _, h, h' => by cases h with | cons h1 h2 => exact .cons h1 (RepL.append h2 h')
theorem RepL.get : ∀ {ps : List PV} {vs : List V} {i : Nat} {p : PV}, RepL K S ps vs → ps[i]? = some p → ∃ v, vs[i]? = some v ∧ Rep K S p v
  | [], _, _, _, _, e => by simp at e
  | q :: ps, _, 0, p, h, e => by cases h with | cons h1 h2 => simp at e; subst e; exact ⟨_, rfl, h1⟩
  | q :: ps, _, i + 1, p, h, e => by
    cases h with
    | cons h1 h2 =>
      obtain ⟨v, e1, r⟩ := RepL.get (i := i) h2 (by simpa using e)
      exact ⟨v, by simpa using e1, r⟩
theorem RepL.get' : ∀ {ps : List PV} {vs : List V} {i : Nat} {v : V}, RepL K S ps vs → vs[i]? = some v → ∃ p, ps[i]? = some p ∧ Rep K S p v
  | [], _, _, _, h, e => by cases h; simp at e
  | q :: ps, _, 0, p, h, e => by cases h with | cons h1 h2 => simp at e; subst e; exact ⟨_, rfl, h1⟩
  | q :: ps, _, i + 1, p, h, e => by
    cases h with
    | cons h1 h2 =>
      obtain ⟨v, e1, r⟩ := RepL.get' (i := i) h2 (by simpa using e)
      exact ⟨v, by simpa using e1, r⟩
theorem RepL.set {p : PV} {v : V} (r : Rep K S p v) : ∀ {ps : List PV} {vs : List V} (i : Nat), RepL K S ps vs → RepL K S (ps.set i p) (vs.set i v)
  | [], _, _, h => by cases h; exact .nil
  | _ :: _, _, 0, h => by cases h with | cons h1 h2 => exact .cons r h2
  | _ :: _, _, i + 1, h => by cases h with | cons h1 h2 => exact .cons h1 (RepL.set r i h2)
theorem RepL.take : ∀ {ps : List PV} {vs : List V} (n : Nat), RepL K S ps vs → RepL K S (ps.take n) (vs.take n)
  | _, _, 0, h => by simp; exact .nil
  | [], _, _ + 1, h => by cases h; exact .nil
  | _ :: _, _, n + 1, h => by cases h with | cons h1 h2 => exact .cons h1 (RepL.take n h2)
theorem RepL.drop : ∀ {ps : List PV} {vs : List V} (n : Nat), RepL K S ps vs → RepL K S (ps.drop n) (vs.drop n)
  | _, _, 0, h => h
  | [], _, _ + 1, h => by cases h; exact .nil
  | _ :: _, _, n + 1, h => by cases h with | cons h1 h2 => exact RepL.drop n h2
theorem RepL.reverse : ∀ {ps : List PV} {vs : List V}, RepL K S ps vs → RepL K S ps.reverse vs.reverse
  | [], _, h => by cases h; exact .nil
  | _ :: _, _, h => by cases h with | cons h1 h2 => rw [List.reverse_cons, List.reverse_cons]; exact RepL.append (RepL.reverse h2) (.cons h1 .nil)
theorem RepL.dropLast {ps : List PV} {vs : List V} (h : RepL K S ps vs) : RepL K S ps.dropLast vs.dropLast := by
  rw [List.dropLast_eq_take, List.dropLast_eq_take, ← h.length]
  exact h.take _
theorem RepL.eraseIdx : ∀ {ps : List PV} {vs : List V} (n : Nat), RepL K S ps vs → RepL K S (ps.eraseIdx n) (vs.eraseIdx n)
  | [], _, _, h => by cases h; exact .nil
  | _ :: _, _, 0, h => by cases h with | cons h1 h2 => exact h2
  | _ :: _, _, n + 1, h => by cases h with | cons h1 h2 => exact .cons h1 (RepL.eraseIdx n h2)
theorem RepL.replicate {p : PV} {v : V} (r : Rep K S p v) : ∀ n, RepL K S (List.replicate n p) (List.replicate n v)
  | 0 => .nil
  | n + 1 => .cons r (RepL.replicate r n)
end

/-- what an owned object at the top is -/
def OwnO (K : PySem.W.Frag) (S : Hp) : PV → HO → Prop
  | .lst ps, .lst vs => RepL K S ps vs
  | .dic false ks ps, .dK kvs => ks = kvs.map (fun p => keyPV p.1) ∧ RepL K S ps (kvs.map (·.2))
  | .dic true ks ps, .dT kvs => ks = kvs.map (fun p => .tup (p.1.map keyPV)) ∧ RepL K S ps (kvs.map (·.2))
  | _, _ => False
theorem OwnO.up {K : PySem.W.Frag} {S S' : Hp} (e : Same S S') {p : PV} {o : HO} (h : OwnO K S p o) : OwnO K S' p o := by
  unfold OwnO at h ⊢
  split at h
  · exact h.up e
  · exact ⟨h.1, h.2.up e⟩
  · exact ⟨h.1, h.2.up e⟩
  · exact h.elim
theorem OwnO.rep {K : PySem.W.Frag} {S : Hp} {p : PV} {o : HO} {a : Addr} (h : OwnO K S p o) (e : S a = some o) : Rep K S p (.ref a) := by
  unfold OwnO at h
  split at h
  · exact .lst e h
  · obtain ⟨rfl, h⟩ := h
    exact .dK e h
  · obtain ⟨rfl, h⟩ := h
    exact .dT e h
  · exact h.elim

/-! ### slots -/
inductive Sl where
  | un | sh (p : PV) | ow (p : PV) | io (p : PV)
abbrev Env := List Sl
def Sl.own? : Sl → Option PV
  | .ow p => some p
  | .io p => some p
  | _ => none
def Sl.with : Sl → PV → Sl
  | .ow _, q => .ow q
  | .io _, q => .io q
  | s, _ => s
structure Abs (K : PySem.W.Frag) (H₀ S₀ : Hp) (M : Addr → Prop) (S : Hp) (σ : St) (H : Hp) (ρ : Env) : Prop where
  len : ρ.length = σ.length
  sub : Same S H
  base : Same S₀ S
  grow : ∀ b o, S b = some o → S₀ b = some o ∨ H₀ b = none
  keep : ∀ b o, H₀ b = some o → ¬ M b → H b = some o
  there : ∀ b o, H₀ b = some o → ∃ o', H b = some o'
  sh : ∀ (i : Nat) p, ρ[i]? = some (.sh p) → ∃ v, σ[i]? = some (some v) ∧ Rep K S p v
  own : ∀ (i : Nat) s p, ρ[i]? = some s → s.own? = some p → ∃ a o, σ[i]? = some (some (.ref a)) ∧ (s = .ow p → H₀ a = none) ∧ (s = .io p → M a) ∧ S a = none ∧ H a = some o ∧ OwnO K S p o
  dis : ∀ (i j : Nat) s t p q a, ρ[i]? = some s → s.own? = some p → ρ[j]? = some t → t.own? = some q → σ[i]? = some (some (.ref a)) → σ[j]? = some (some (.ref a)) → i = j
/-- new objects alone -/
structure Step (S H S' H' : Hp) : Prop where
  s : Same S S'
  h : Same H H'
  sub : Same S' H'
  new : ∀ b o, S' b = some o → S b = some o ∨ H b = none
theorem Step.refl {S H : Hp} (h : Same S H) : Step S H S H := ⟨Same.refl _, Same.refl _, h, fun _ _ e => .inl e⟩
theorem Step.trans {S H S1 H1 S2 H2 : Hp} (a : Step S H S1 H1) (b : Step S1 H1 S2 H2) : Step S H S2 H2 :=
  ⟨a.s.trans b.s, a.h.trans b.h, b.sub, fun c o e => by
    rcases b.new c o e with h | h
    · exact a.new c o h
    · exact .inr (a.h.free h)⟩
theorem same_upd {H : Hp} {p : Addr} {o : HO} (h : H p = none) : Same H (upd H p o) := fun b x e => by
  rw [upd_ne (ne_of_none e h)]
  exact e
theorem Same.updB {S H : Hp} {p : Addr} {o : HO} (h : Same S H) : Same (upd S p o) (upd H p o) := fun b x e => by
  by_cases hb : b = p
  · subst hb; rw [upd_same] at e ⊢; exact e
  · rw [upd_ne hb] at e ⊢; exact h _ _ e
/-- one new object, shared -/
theorem Step.new1 {S H : Hp} {p : Addr} {o : HO} (h : Same S H) (n : H p = none) : Step S H (upd S p o) (upd H p o) :=
  ⟨same_upd (Same.free h n), same_upd n, Same.updB h, fun b x e => by
    by_cases hb : b = p
    · subst hb; exact .inr n
    · rw [upd_ne hb] at e; exact .inl e⟩
/-- .. not shared -/
theorem Step.hid {S H : Hp} {p : Addr} {o : HO} (h : Same S H) (n : H p = none) : Step S H S (upd H p o) :=
  ⟨Same.refl _, same_upd n, h.trans (same_upd n), fun b x e => .inl e⟩
section
variable {K : PySem.W.Frag} {H₀ S₀ : Hp} {M : Addr → Prop} {S S' H H' : Hp} {σ : St} {ρ : Env}
theorem Abs.rebase (a : Abs K H₀ S₀ M S σ H ρ) : Abs K H₀ S M S σ H ρ := ⟨a.len, a.sub, Same.refl _, fun _ _ e => .inl e, a.keep, a.there, a.sh, a.own, a.dis⟩
theorem Abs.unbase {σ' : St} {ρ' : Env} (a : Abs K H₀ S₀ M S σ H ρ) (b : Abs K H₀ S M S' σ' H' ρ') : Abs K H₀ S₀ M S' σ' H' ρ' :=
  ⟨b.len, b.sub, a.base.trans b.base, fun c o e => by
    rcases b.grow c o e with h | h
    · exact a.grow c o h
    · exact .inr h, b.keep, b.there, b.sh, b.own, b.dis⟩
theorem Abs.none0 (a : Abs K H₀ S₀ M S σ H ρ) {b : Addr} (h : H b = none) : H₀ b = none := by
  cases e : H₀ b with
  | none => rfl
  | some o =>
    obtain ⟨o', e'⟩ := a.there b o e
    rw [h] at e'; cases e'
theorem Abs.step (a : Abs K H₀ S₀ M S σ H ρ) (t : Step S H S' H') : Abs K H₀ S₀ M S' σ H' ρ where
  len := a.len
  sub := t.sub
  base := a.base.trans t.s
  grow := fun b o e => by
    rcases t.new b o e with h | h
    · exact a.grow b o h
    · exact .inr (a.none0 h)
  keep := fun b o e n => t.h _ _ (a.keep b o e n)
  there := fun b o e => by
    obtain ⟨o', h⟩ := a.there b o e
    exact ⟨o', t.h _ _ h⟩
  sh := fun i p e => by
    obtain ⟨v, h1, h2⟩ := a.sh i p e
    exact ⟨v, h1, h2.up t.s⟩
  own := fun i s p e e' => by
    obtain ⟨b, o, h1, h2, h3, h4, h5, h6⟩ := a.own i s p e e'
    refine ⟨b, o, h1, h2, h3, ?_, t.h _ _ h5, h6.up t.s⟩
    cases q : S' b with
    | none => rfl
    | some o' =>
      rcases t.new b o' q with z | z
      · rw [h4] at z; cases z
      · rw [h5] at z; cases z
  dis := a.dis
/-- an owned slot becomes shared -/
theorem Abs.share {i : Nat} {p : PV} (a : Abs K H₀ S₀ M S σ H ρ) (e : ρ[i]? = some (.ow p)) :
    ∃ b S', σ[i]? = some (some (.ref b)) ∧ Same S S' ∧ Abs K H₀ S₀ M S' σ H (ρ.set i (.sh p)) ∧ Rep K S' p (.ref b) := by
  obtain ⟨b, o, h1, h2, h3, h4, h5, h6⟩ := a.own i _ p e rfl
  have hs : Same S (upd S b o) := same_upd h4
  have hr : Rep K (upd S b o) p (.ref b) := (h6.up hs).rep upd_same
  have hi : i < ρ.length := (List.getElem?_eq_some_iff.mp e).1
  refine ⟨b, upd S b o, h1, hs, ?_, hr⟩
  refine ⟨by rw [List.length_set]; exact a.len, fun c o' q => ?_, a.base.trans hs, fun c o' q => ?_, a.keep, a.there, fun j q ej => ?_, fun j s q ej es => ?_, fun j k s t q r c ej es ek et h k' => ?_⟩
  · by_cases hc : c = b
    · subst hc; rw [upd_same] at q; cases q; exact h5
    · rw [upd_ne hc] at q; exact a.sub _ _ q
  · by_cases hc : c = b
    · subst hc; exact .inr (h2 rfl)
    · rw [upd_ne hc] at q; exact a.grow _ _ q
  · by_cases hj : j = i
    · subst hj
      rw [List.getElem?_set_self hi] at ej
      cases ej
      exact ⟨_, h1, hr⟩
    · rw [List.getElem?_set_ne (Ne.symm hj)] at ej
      obtain ⟨v, z1, z2⟩ := a.sh j q ej
      exact ⟨v, z1, z2.up hs⟩
  · by_cases hj : j = i
    · subst hj
      rw [List.getElem?_set_self hi] at ej
      cases ej
      cases es
    · rw [List.getElem?_set_ne (Ne.symm hj)] at ej
      obtain ⟨c, o', z1, z2, z3, z4, z5, z6⟩ := a.own j s q ej es
      refine ⟨c, o', z1, z2, z3, ?_, z5, z6.up hs⟩
      rw [upd_ne, z4]
      intro hcb
      subst hcb
      exact hj (a.dis j i _ _ _ _ c ej es e rfl z1 h1)
  · by_cases hj : j = i
    · subst hj
      rw [List.getElem?_set_self hi] at ej
      cases ej
      cases es
    · by_cases hk : k = i
      · subst hk
        rw [List.getElem?_set_self hi] at ek
        cases ek
        cases et
      · rw [List.getElem?_set_ne (Ne.symm hj)] at ej
        rw [List.getElem?_set_ne (Ne.symm hk)] at ek
        exact a.dis j k _ _ _ _ c ej es ek et h k'
/-- a slot gets a shared value -/
theorem Abs.setSh {i : Nat} {p : PV} {v : V} (a : Abs K H₀ S₀ M S σ H ρ) (r : Rep K S p v) : Abs K H₀ S₀ M S (σ.set i (some v)) H (ρ.set i (.sh p)) where
  len := by rw [List.length_set, List.length_set]; exact a.len
  sub := a.sub
  base := a.base
  grow := a.grow
  keep := a.keep
  there := a.there
  sh := fun j q ej => by
    by_cases hj : j = i
    · subst hj
      have hi : j < ρ.length := by
        rcases Nat.lt_or_ge j ρ.length with h | h
        · exact h
        · rw [List.getElem?_eq_none (by rw [List.length_set]; exact h)] at ej; cases ej
      rw [List.getElem?_set_self hi] at ej
      cases ej
      exact ⟨v, List.getElem?_set_self (a.len ▸ hi), r⟩
    · rw [List.getElem?_set_ne (Ne.symm hj)] at ej ⊢
      exact a.sh j q ej
  own := fun j s q ej es => by
    by_cases hj : j = i
    · subst hj
      have hi : j < ρ.length := by
        rcases Nat.lt_or_ge j ρ.length with h | h
        · exact h
        · rw [List.getElem?_eq_none (by rw [List.length_set]; exact h)] at ej; cases ej
      rw [List.getElem?_set_self hi] at ej
      cases ej
      cases es
    · rw [List.getElem?_set_ne (Ne.symm hj)] at ej ⊢
      exact a.own j s q ej es
  dis := fun j k s t q r c ej es ek et h k' => by
    have hl1 : ∀ {j : Nat} {s : Sl} {q : PV}, (ρ.set i (.sh p))[j]? = some s → s.own? = some q → j ≠ i := fun {j s q} ej es hj => by
      subst hj
      have hi : j < ρ.length := by
        rcases Nat.lt_or_ge j ρ.length with h | h
        · exact h
        · rw [List.getElem?_eq_none (by rw [List.length_set]; exact h)] at ej; cases ej
      rw [List.getElem?_set_self hi] at ej
      cases ej
      cases es
    have hj := hl1 ej es
    have hk := hl1 ek et
    rw [List.getElem?_set_ne (Ne.symm hj)] at ej h
    rw [List.getElem?_set_ne (Ne.symm hk)] at ek k'
    exact a.dis j k _ _ _ _ c ej es ek et h k'
/-- a fresh object: new since the entry, no slot owns it, not shared -/
def Fr (K : PySem.W.Frag) (H₀ S H : Hp) (σ : St) (ρ : Env) (p : PV) (v : V) : Prop :=
  ∃ a o, v = .ref a ∧ H₀ a = none ∧ S a = none ∧ H a = some o ∧ OwnO K S p o ∧ ∀ (j : Nat) s q, ρ[j]? = some s → s.own? = some q → σ[j]? ≠ some (some (.ref a))
/-- a slot gets a fresh object -/
theorem Abs.setOw {i : Nat} {p : PV} {v : V} (a : Abs K H₀ S₀ M S σ H ρ) (f : Fr K H₀ S H σ ρ p v) : Abs K H₀ S₀ M S (σ.set i (some v)) H (ρ.set i (.ow p)) := by
  obtain ⟨b, o, rfl, f1, f2, f3, f4, f5⟩ := f
  have lt : ∀ {j : Nat} {s : Sl}, (ρ.set i (.ow p))[j]? = some s → j < ρ.length := fun {j s} ej => by
    rcases Nat.lt_or_ge j ρ.length with h | h
    · exact h
    · rw [List.getElem?_eq_none (by rw [List.length_set]; exact h)] at ej; cases ej
  refine ⟨by rw [List.length_set, List.length_set]; exact a.len, a.sub, a.base, a.grow, a.keep, a.there, fun j q ej => ?_, fun j s q ej es => ?_, fun j k s t q r c ej es ek et h k' => ?_⟩
  · by_cases hj : j = i
    · subst hj
      rw [List.getElem?_set_self (lt ej)] at ej
      cases ej
    · rw [List.getElem?_set_ne (Ne.symm hj)] at ej ⊢
      exact a.sh j q ej
  · by_cases hj : j = i
    · subst hj
      have hi := lt ej
      rw [List.getElem?_set_self hi] at ej
      cases ej
      cases es
      exact ⟨b, o, List.getElem?_set_self (a.len ▸ hi), fun _ => f1, (fun z => nomatch z), f2, f3, f4⟩
    · rw [List.getElem?_set_ne (Ne.symm hj)] at ej ⊢
      exact a.own j s q ej es
  · by_cases hj : j = i
    · by_cases hk : k = i
      · rw [hj, hk]
      · subst hj
        have hl := a.len ▸ lt ej
        rw [List.getElem?_set_self hl] at h
        cases h
        rw [List.getElem?_set_ne (Ne.symm hk)] at ek k'
        exact absurd k' (f5 k _ _ ek et)
    · by_cases hk : k = i
      · subst hk
        have hl := a.len ▸ lt ek
        rw [List.getElem?_set_self hl] at k'
        cases k'
        rw [List.getElem?_set_ne (Ne.symm hj)] at ej h
        exact absurd h (f5 j _ _ ej es)
      · rw [List.getElem?_set_ne (Ne.symm hj)] at ej h
        rw [List.getElem?_set_ne (Ne.symm hk)] at ek k'
        exact a.dis j k _ _ _ _ c ej es ek et h k'
/-- an owned object is changed -/
theorem Abs.mut {i : Nat} {s : Sl} {p q : PV} {b : Addr} {o : HO} (a : Abs K H₀ S₀ M S σ H ρ) (e : ρ[i]? = some s) (es : s.own? = some p) (hb : σ[i]? = some (some (.ref b))) (h : OwnO K S q o) :
    Abs K H₀ S₀ M S σ (upd H b o) (ρ.set i (s.with q)) := by
  obtain ⟨b', o', h1, h2, h3, h4, h5, h6⟩ := a.own i s p e es
  rw [hb] at h1
  cases h1
  have hi : i < ρ.length := (List.getElem?_eq_some_iff.mp e).1
  have hw : (s.with q).own? = some q := by
    cases s with
    | ow r => rfl
    | io r => rfl
    | un => cases es
    | sh r => cases es
  have hn : ∀ c o', S c = some o' → c ≠ b := fun c o' z y => by subst y; rw [h4] at z; cases z
  have hM : ¬ M b → H₀ b = none := fun hM => by
    cases s with
    | ow r => cases es; exact h2 rfl
    | io r => cases es; exact absurd (h3 rfl) hM
    | un => cases es
    | sh r => cases es
  refine ⟨by rw [List.length_set]; exact a.len, fun c o' z => ?_, a.base, a.grow, fun c o' z n => ?_, fun c o' z => ?_, fun j r ej => ?_, fun j t r ej et => ?_, fun j k t u r r' c ej et ek eu z z' => ?_⟩
  · rw [upd_ne (hn c o' z)]; exact a.sub _ _ z
  · by_cases hc : c = b
    · subst hc; rw [hM n] at z; cases z
    · rw [upd_ne hc]; exact a.keep _ _ z n
  · by_cases hc : c = b
    · subst hc; exact ⟨o, upd_same⟩
    · rw [upd_ne hc]; exact a.there _ _ z
  · by_cases hj : j = i
    · subst hj
      rw [List.getElem?_set_self hi] at ej
      have z := Option.some.inj ej
      rw [z] at hw; cases hw
    · rw [List.getElem?_set_ne (Ne.symm hj)] at ej
      exact a.sh j r ej
  · by_cases hj : j = i
    · subst hj
      rw [List.getElem?_set_self hi] at ej
      have z := Option.some.inj ej
      subst z
      rw [hw] at et
      cases et
      refine ⟨b, o, hb, fun z => ?_, fun z => ?_, h4, upd_same, h⟩
      · cases s with
        | ow r => cases es; exact h2 rfl
        | io r => cases z
        | un => cases es
        | sh r => cases es
      · cases s with
        | io r => cases es; exact h3 rfl
        | ow r => cases z
        | un => cases es
        | sh r => cases es
    · rw [List.getElem?_set_ne (Ne.symm hj)] at ej
      obtain ⟨c, o', z1, z2, z3, z4, z5, z6⟩ := a.own j t r ej et
      refine ⟨c, o', z1, z2, z3, z4, ?_, z6⟩
      rw [upd_ne, z5]
      intro hcb
      subst hcb
      exact hj (a.dis j i _ _ _ _ c ej et e es z1 hb)
  · have key : ∀ {j : Nat} {t : Sl} {r : PV}, (ρ.set i (s.with q))[j]? = some t → t.own? = some r → ∃ t' r', ρ[j]? = some t' ∧ t'.own? = some r' := fun {j t r} ej et => by
      by_cases hj : j = i
      · subst hj; exact ⟨s, p, e, es⟩
      · rw [List.getElem?_set_ne (Ne.symm hj)] at ej; exact ⟨t, r, ej, et⟩
    obtain ⟨t1, r1, e1, e2⟩ := key ej et
    obtain ⟨t2, r2, e3, e4⟩ := key ek eu
    exact a.dis j k _ _ _ _ c e1 e2 e3 e4 z z'
/-- what is fresh is shared -/
theorem Abs.shareFr {p : PV} {v : V} (a : Abs K H₀ S₀ M S σ H ρ) (f : Fr K H₀ S H σ ρ p v) : ∃ S', Same S S' ∧ Abs K H₀ S₀ M S' σ H ρ ∧ Rep K S' p v := by
  obtain ⟨b, o, rfl, f1, f2, f3, f4, f5⟩ := f
  have hs : Same S (upd S b o) := same_upd f2
  refine ⟨upd S b o, hs, ⟨a.len, fun c o' q => ?_, a.base.trans hs, fun c o' q => ?_, a.keep, a.there, fun j q ej => ?_, fun j s q ej es => ?_, a.dis⟩, (f4.up hs).rep upd_same⟩
  · by_cases hc : c = b
    · subst hc; rw [upd_same] at q; cases q; exact f3
    · rw [upd_ne hc] at q; exact a.sub _ _ q
  · by_cases hc : c = b
    · subst hc; exact .inr f1
    · rw [upd_ne hc] at q; exact a.grow _ _ q
  · obtain ⟨v, z1, z2⟩ := a.sh j q ej
    exact ⟨v, z1, z2.up hs⟩
  · obtain ⟨c, o', z1, z2, z3, z4, z5, z6⟩ := a.own j s q ej es
    refine ⟨c, o', z1, z2, z3, ?_, z5, z6.up hs⟩
    rw [upd_ne, z4]
    intro hcb
    subst hcb
    exact f5 j s q ej es z1
/-- a new object, fresh -/
theorem Abs.fresh {b : Addr} {o : HO} {p : PV} (a : Abs K H₀ S₀ M S σ H ρ) (n : H b = none) (h : OwnO K S p o) : Abs K H₀ S₀ M S σ (upd H b o) ρ ∧ Fr K H₀ S (upd H b o) σ ρ p (.ref b) := by
  refine ⟨a.step (Step.hid a.sub n), b, o, rfl, a.none0 n, a.sub.free n, upd_same, h, fun j s q ej es z => ?_⟩
  obtain ⟨c, o', z1, _, _, _, z5, _⟩ := a.own j s q ej es
  rw [z] at z1
  cases z1
  rw [n] at z5; cases z5
end
end PL

set_option Elab.async false
set_option linter.all false
set_option maxRecDepth 100000
set_option maxHeartbeats 4000000
namespace PL
open PySem PySem.Spec L2
set_option autoImplicit false

structure Exn where
  cls : Str
  fld : Str
  val : PV
inductive Rs (α : Type) where
  | bad | exc (x : Exn) (ρ : Env) | ok (a : α) (ρ : Env)
def Rs.bind {α β : Type} (r : Rs α) (k : α → Env → Rs β) : Rs β := match r with
  | .bad => .bad
  | .exc x ρ => .exc x ρ
  | .ok a ρ => k a ρ
def opt {α : Type} : Option α → Env → Rs α
  | some a, ρ => .ok a ρ
  | none, _ => .bad
abbrev Den := Env → Rs PV
abbrev DenB := Env → Rs Bool
abbrev DenL := Env → Rs (List PV)
@[simp] theorem bind_ok {α β : Type} (a : α) (ρ : Env) (k : α → Env → Rs β) : (Rs.ok a ρ).bind k = k a ρ := id rfl
@[simp] theorem bind_exc {α β : Type} (x : Exn) (ρ : Env) (k : α → Env → Rs β) : (Rs.exc x ρ).bind k = .exc x ρ := id rfl
@[simp] theorem bind_bad {α β : Type} (k : α → Env → Rs β) : (Rs.bad : Rs α).bind k = .bad := id rfl
@[simp] theorem opt_some {α : Type} (a : α) (ρ : Env) : opt (some a) ρ = .ok a ρ := id rfl
@[simp] theorem opt_none {α : Type} (ρ : Env) : opt (none : Option α) ρ = .bad := id rfl

/-- an exception as it lies -/
def ExcRep (K : PySem.W.Frag) (mg : Str → Option Value) (S H : Hp) (x : Exn) (cls : Value) (d : Option Addr) : Prop :=
  ∃ (C dx : Addr) (v : V), mg x.cls = some (.ref C) ∧ cls = .ref C ∧ d = some dx ∧ H dx = some (.xd [(x.fld, v)]) ∧ Rep K S x.val v

abbrev RelT (α β : Type) := Hp → Hp → Hp → St → Env → α → β → Prop
def Post {α β : Type} (K : PySem.W.Frag) (mg : Str → Option Value) (W : WX) (Rl : RelT α β) (H₀ S₀ : Hp) (M : Addr → Prop) (σ : St) (r : Rs α) (Q : β → Hp → Prop) : Prop :=
  match r with
  | .bad => False
  | .exc x ρ' => ∀ cls dd S' H', Abs K H₀ S₀ M S' σ H' ρ' → ExcRep K mg S' H' x cls dd → W cls dd σ H'
  | .ok a ρ' => ∀ b S' H', Abs K H₀ S₀ M S' σ H' ρ' → Rl H₀ S' H' σ ρ' a b → Q b H'
def XOk {α β : Type} (K : PySem.W.Frag) (mg : Str → Option Value) (W : WX) (Rl : RelT α β) (t : St → Hp → (β → Hp → Prop) → Prop) (d : Env → Rs α) : Prop :=
  ∀ (H₀ S₀ : Hp) (M : Addr → Prop) (S : Hp) (σ : St) (H : Hp) (ρ : Env) (Q : β → Hp → Prop), Abs K H₀ S₀ M S σ H ρ → Post K mg W Rl H₀ S₀ M σ (d ρ) Q → t σ H Q
def rV (K : PySem.W.Frag) : RelT PV V := fun _ S _ _ _ p v => Rep K S p v
def rF (K : PySem.W.Frag) : RelT PV V := fun H₀ S H σ ρ p v => Fr K H₀ S H σ ρ p v
def rB : RelT Bool Bool := fun _ _ _ _ _ a b => b = a
def rL (K : PySem.W.Frag) : RelT (List PV) (List V) := fun _ S _ _ _ ps vs => RepL K S ps vs

section
variable {K : PySem.W.Frag} {mg : Str → Option Value} {W : WX} {H₀ S₀ : Hp} {M : Addr → Prop} {S H : Hp} {σ : St} {ρ : Env}
theorem XOk.bind {α β γ δ : Type} {Rl : RelT α β} {Rl' : RelT γ δ} {t : St → Hp → (β → Hp → Prop) → Prop} {d : Env → Rs α} (h : XOk K mg W Rl t d) (ab : Abs K H₀ S₀ M S σ H ρ) {k : α → Env → Rs γ} {Q : δ → Hp → Prop} {Q1 : β → Hp → Prop}
    (hp : Post K mg W Rl' H₀ S₀ M σ ((d ρ).bind k) Q)
    (hk : ∀ a ρ1 b S1 H1, d ρ = .ok a ρ1 → Abs K H₀ S₀ M S1 σ H1 ρ1 → Same S S1 → Rl H₀ S1 H1 σ ρ1 a b → Post K mg W Rl' H₀ S₀ M σ (k a ρ1) Q → Q1 b H1) : t σ H Q1 := by
  refine h H₀ S M S σ H ρ Q1 ab.rebase ?_
  cases e : d ρ with
  | bad => rw [e] at hp; exact hp
  | exc x ρ1 =>
    rw [e] at hp
    exact fun cls dd S' H' a1 r => hp cls dd S' H' (ab.unbase a1) r
  | ok a ρ1 =>
    rw [e] at hp
    exact fun b S1 H1 a1 r => hk a ρ1 b S1 H1 e (ab.unbase a1) a1.base r hp
/-- fresh is shared -/
theorem XOk.shared {t : TE} {d : Den} (h : XOk K mg W (rF K) t d) : XOk K mg W (rV K) t d := by
  intro H₀ S₀ M S σ H ρ Q ab hp
  refine h H₀ S₀ M S σ H ρ Q ab ?_
  cases e : d ρ with
  | bad => rw [e] at hp; exact hp
  | exc x ρ1 => rw [e] at hp; exact hp
  | ok a ρ1 =>
    rw [e] at hp
    intro b S1 H1 a1 f
    obtain ⟨S2, s2, a2, r2⟩ := a1.shareFr f
    exact hp b S2 H1 a2 r2
end

/-! ### operations by values -/
def V2 (K : PySem.W.Frag) (r : R2) (g : PV → PV → Option PV) : Prop :=
  ∀ (S H : Hp) (x y : V) (p q z : PV) (Q : VK), Same S H → Rep K S p x → Rep K S q y → g p q = some z → (∀ v S' H', Step S H S' H' → Rep K S' z v → Q v H') → r x y H Q
def V2F (K : PySem.W.Frag) (r : R2) (g : PV → PV → Option PV) : Prop :=
  ∀ (S H : Hp) (x y : V) (p q z : PV) (Q : VK), Same S H → Rep K S p x → Rep K S q y → g p q = some z → (∀ a o, H a = none → OwnO K S z o → Q (.ref a) (upd H a o)) → r x y H Q
def V1 (K : PySem.W.Frag) (r : V → Hp → VK → Prop) (g : PV → Option PV) : Prop :=
  ∀ (S H : Hp) (x : V) (p z : PV) (Q : VK), Same S H → Rep K S p x → g p = some z → (∀ v S' H', Step S H S' H' → Rep K S' z v → Q v H') → r x H Q
def VN (K : PySem.W.Frag) (r : List V → Hp → VK → Prop) (g : List PV → Option PV) : Prop :=
  ∀ (S H : Hp) (xs : List V) (ps : List PV) (z : PV) (Q : VK), Same S H → RepL K S ps xs → g ps = some z → (∀ v S' H', Step S H S' H' → Rep K S' z v → Q v H') → r xs H Q
def VNF (K : PySem.W.Frag) (r : List V → Hp → VK → Prop) (g : List PV → Option PV) : Prop :=
  ∀ (S H : Hp) (xs : List V) (ps : List PV) (z : PV) (Q : VK), Same S H → RepL K S ps xs → g ps = some z → (∀ a o, H a = none → OwnO K S z o → Q (.ref a) (upd H a o)) → r xs H Q
/-- the truth of a value -/
def VT (K : PySem.W.Frag) (r : V → Hp → (Bool → Hp → Prop) → Prop) (g : PV → Option Bool) : Prop :=
  ∀ (S H : Hp) (x : V) (p : PV) (z : Bool) (Q : Bool → Hp → Prop), Same S H → Rep K S p x → g p = some z → Q z H → r x H Q
theorem own_new {K : PySem.W.Frag} {S H : Hp} {a : Addr} {o : HO} {z : PV} (s : Same S H) (n : H a = none) (h : OwnO K S z o) : Step S H (upd S a o) (upd H a o) ∧ Rep K (upd S a o) z (.ref a) :=
  ⟨Step.new1 s n, (h.up (same_upd (Same.free s n))).rep upd_same⟩
theorem V2F.v2 {K : PySem.W.Frag} {r : R2} {g : PV → PV → Option PV} (h : V2F K r g) : V2 K r g := fun S H x y p q z Q s rx ry e k => h S H x y p q z Q s rx ry e fun a o n w => k _ _ _ (own_new s n w).1 (own_new s n w).2
theorem VNF.vn {K : PySem.W.Frag} {r : List V → Hp → VK → Prop} {g : List PV → Option PV} (h : VNF K r g) : VN K r g := fun S H xs ps z Q s rx e k => h S H xs ps z Q s rx e fun a o n w => k _ _ _ (own_new s n w).1 (own_new s n w).2
def PV.sc : PV → Bool
  | .non => true
  | .bl _ => true
  | .int _ => true
  | .str _ => true
  | _ => false
theorem Rep.sc {K : PySem.W.Frag} {S S' : Hp} {p : PV} {v : V} (h : Rep K S p v) (e : p.sc = true) : Rep K S' p v := by
  cases p with
  | non => cases h; exact .non
  | bl b => cases h; exact .bl b
  | int i => cases h; exact .int i
  | str x => cases h; exact .str x
  | _ => cases e

/-! ### denotations of expressions -/
def dC (p : PV) : Den := fun ρ => .ok p ρ
def dVar (i : Nat) : Den := fun ρ => match ρ[i]? with
  | some (.sh p) => .ok p ρ
  | some (.ow p) => .ok p (ρ.set i (.sh p))
  | _ => .bad
def Sl.pv? : Sl → Option PV
  | .sh p => some p
  | .ow p => some p
  | .io p => some p
  | .un => none
/-- what the slot holds -/
def slot (ρ : Env) (i : Nat) : Option PV := (ρ[i]?).bind Sl.pv?
def d1 (g : PV → Option PV) (da : Den) : Den := fun ρ => (da ρ).bind fun p ρ1 => opt (g p) ρ1
def d2 (g : PV → PV → Option PV) (da db : Den) : Den := fun ρ => (da ρ).bind fun p ρ1 => (db ρ1).bind fun q ρ2 => opt (g p q) ρ2
/-- the left one a slot that is only looked at -/
def d2l (g : PV → PV → Option PV) (i : Nat) (db : Den) : Den := fun ρ => match slot ρ i with
  | none => .bad
  | some _ => (db ρ).bind fun q ρ1 => match slot ρ1 i with
    | none => .bad
    | some p => opt (g p q) ρ1
def d2r (g : PV → PV → Option PV) (da : Den) (i : Nat) : Den := fun ρ => (da ρ).bind fun p ρ1 => match slot ρ1 i with
    | none => .bad
    | some q => opt (g p q) ρ1
def d2b (g : PV → PV → Option PV) (i j : Nat) : Den := fun ρ => match slot ρ i, slot ρ j with
    | some p, some q => opt (g p q) ρ
    | _, _ => .bad
def d1v (g : PV → Option PV) (i : Nat) : Den := fun ρ => match slot ρ i with
    | some p => opt (g p) ρ
    | _ => .bad
def dNil : DenL := fun ρ => .ok [] ρ
def dCons (da : Den) (dr : DenL) : DenL := fun ρ => (da ρ).bind fun p ρ1 => (dr ρ1).bind fun ps ρ2 => .ok (p :: ps) ρ2
def dN (g : List PV → Option PV) (da : DenL) : Den := fun ρ => (da ρ).bind fun ps ρ1 => opt (g ps) ρ1
def dIf (dc : DenB) (da db : Den) : Den := fun ρ => (dc ρ).bind fun b ρ1 => if b = true then da ρ1 else db ρ1
/-- tests -/
def bAnd (da db : DenB) : DenB := fun ρ => (da ρ).bind fun b ρ1 => if b = true then db ρ1 else .ok false ρ1
def bOr (da db : DenB) : DenB := fun ρ => (da ρ).bind fun b ρ1 => if b = true then .ok true ρ1 else db ρ1
def bNot (da : DenB) : DenB := fun ρ => (da ρ).bind fun b ρ1 => .ok (!b) ρ1
def PV.bool? : PV → Option Bool
  | .bl b => some b
  | _ => none
/-- a value that is a bool, as a test -/
def bVal (da : Den) : DenB := fun ρ => (da ρ).bind fun p ρ1 => opt p.bool? ρ1
def truth : PV → Option Bool
  | .non => some false
  | .bl b => some b
  | .int i => some (i != 0)
  | .str x => if x.length ≤ sizeLine then some ((x.length : Int) != 0) else none
  | .lst ps => some (!ps.isEmpty)
  | .tup ps => some (!ps.isEmpty)
  | .ktup ps => some (!ps.isEmpty)
  | .klst ps => some (!ps.isEmpty)
  | .dic _ _ _ => none
  | .fn _ => none
def bTru (da : Den) : DenB := fun ρ => (da ρ).bind fun p ρ1 => opt (truth p) ρ1
def bTruV (i : Nat) : DenB := fun ρ => match slot ρ i with
  | some p => opt (truth p) ρ
  | none => .bad

section
variable {K : PySem.W.Frag} {mg : Str → Option Value} {W : WX}
abbrev EOk (K : PySem.W.Frag) (mg : Str → Option Value) (W : WX) (t : TE) (d : Den) : Prop := XOk K mg W (rV K) t d
abbrev FOk (K : PySem.W.Frag) (mg : Str → Option Value) (W : WX) (t : TE) (d : Den) : Prop := XOk K mg W (rF K) t d
abbrev TOk (K : PySem.W.Frag) (mg : Str → Option Value) (W : WX) (t : TT) (d : DenB) : Prop := XOk K mg W rB t d
abbrev AOk (K : PySem.W.Frag) (mg : Str → Option Value) (W : WX) (t : TA) (d : DenL) : Prop := XOk K mg W (rL K) t d

theorem eo_c {p : PV} {v : V} (h : ∀ S, Rep K S p v) : EOk K mg W (tC v) (dC p) := fun H₀ S₀ M S σ H ρ Q ab hp => hp v S H ab (h S)
theorem eo_var {i : Nat} : EOk K mg W (tVar i) (dVar i) := by
  intro H₀ S₀ M S σ H ρ Q ab hp
  unfold dVar at hp
  cases e : ρ[i]? with
  | none => rw [e] at hp; exact hp.elim
  | some s =>
    rw [e] at hp
    cases s with
    | un => exact hp.elim
    | io p => exact hp.elim
    | sh p =>
      obtain ⟨v, h1, h2⟩ := ab.sh i p e
      exact ⟨v, h1, hp v S H ab h2⟩
    | ow p =>
      obtain ⟨b, S', h1, h2, h3, h4⟩ := ab.share e
      exact ⟨.ref b, h1, hp _ S' H h3 h4⟩
theorem Abs.look {H₀ S₀ : Hp} {M : Addr → Prop} {S H : Hp} {σ : St} {ρ : Env} {i : Nat} {p : PV} (a : Abs K H₀ S₀ M S σ H ρ) (e : slot ρ i = some p) :
    ∃ v S', σ[i]? = some (some v) ∧ Same S S' ∧ Same S' H ∧ Rep K S' p v := by
  unfold slot at e
  cases e1 : ρ[i]? with
  | none => rw [e1] at e; cases e
  | some s =>
    rw [e1] at e
    cases s with
    | un => cases e
    | sh q =>
      cases e
      obtain ⟨v, h1, h2⟩ := a.sh i _ e1
      exact ⟨v, S, h1, Same.refl _, a.sub, h2⟩
    | ow q =>
      cases e
      obtain ⟨b, o, h1, h2, h3, h4, h5, h6⟩ := a.own i _ _ e1 rfl
      refine ⟨.ref b, upd S b o, h1, same_upd h4, fun c o' z => ?_, (h6.up (same_upd h4)).rep upd_same⟩
      by_cases hc : c = b
      · subst hc; rw [upd_same] at z; cases z; exact h5
      · rw [upd_ne hc] at z; exact a.sub _ _ z
    | io q =>
      cases e
      obtain ⟨b, o, h1, h2, h3, h4, h5, h6⟩ := a.own i _ _ e1 rfl
      refine ⟨.ref b, upd S b o, h1, same_upd h4, fun c o' z => ?_, (h6.up (same_upd h4)).rep upd_same⟩
      by_cases hc : c = b
      · subst hc; rw [upd_same] at z; cases z; exact h5
      · rw [upd_ne hc] at z; exact a.sub _ _ z
/-- the two slots looked at together -/
theorem Abs.look2 {H₀ S₀ : Hp} {M : Addr → Prop} {S H : Hp} {σ : St} {ρ : Env} {i j : Nat} {p q : PV} (a : Abs K H₀ S₀ M S σ H ρ) (e : slot ρ i = some p) (e' : slot ρ j = some q) :
    ∃ v u S', σ[i]? = some (some v) ∧ σ[j]? = some (some u) ∧ Same S S' ∧ Same S' H ∧ Rep K S' p v ∧ Rep K S' q u := by
  obtain ⟨v, S1, h1, h2, h3, h4⟩ := a.look e
  obtain ⟨u, S2, k1, k2, k3, k4⟩ := a.look e'
  refine ⟨v, u, fun b => match S1 b with | some o => some o | none => S2 b, h1, k1, fun b o z => ?_, fun b o z => ?_, h4.up fun b o z => ?_, k4.up fun b o z => ?_⟩
  · simp only [h2 b o z]
  · cases e1 : S1 b with
    | some o' => simp only [e1] at z; rw [← z]; exact h3 b o' e1
    | none => simp only [e1] at z; exact k3 b o z
  · simp only [z]
  · cases e1 : S1 b with
    | some o' =>
      have z1 := h3 b o' e1
      rw [k3 b o z] at z1
      simp only [e1]; exact z1.symm
    | none => simp only [e1]; exact z
theorem step_of {S S' H S2 H2 : Hp} (s : Same S H) (t : Step S' H S2 H2) : Step S H S H2 := ⟨Same.refl _, t.h, s.trans t.h, fun _ _ e => .inl e⟩
theorem eo_1 {ta : TE} {da : Den} {r : V → Hp → VK → Prop} {g : PV → Option PV} (ha : EOk K mg W ta da) (hr : V1 K r g) : EOk K mg W (tUn r ta) (d1 g da) := by
  intro H₀ S₀ M S σ H ρ Q ab hp
  refine ha.bind (Rl' := rV K) ab hp fun p ρ1 v S1 H1 _ a1 _ r1 hp => ?_
  cases e : g p with
  | none => rw [e] at hp; exact hp.elim
  | some z =>
    rw [e] at hp
    exact hr S1 H1 v p z Q a1.sub r1 e fun v' S2 H2 st rz => hp v' S2 H2 (a1.step st) rz
theorem eo_2 {ta tb : TE} {da db : Den} {r : R2} {g : PV → PV → Option PV} (ha : EOk K mg W ta da) (hb : EOk K mg W tb db) (hr : V2 K r g) : EOk K mg W (tOp r ta tb) (d2 g da db) := by
  intro H₀ S₀ M S σ H ρ Q ab hp
  refine ha.bind (Rl' := rV K) ab hp fun p ρ1 v S1 H1 _ a1 _ r1 hp => ?_
  refine hb.bind (Rl' := rV K) a1 hp fun q ρ2 u S2 H2 _ a2 s2 r2 hp => ?_
  cases e : g p q with
  | none => rw [e] at hp; exact hp.elim
  | some z =>
    rw [e] at hp
    exact hr S2 H2 v u p q z Q a2.sub (r1.up s2) r2 e fun v' S3 H3 st rz => hp v' S3 H3 (a2.step st) rz
theorem fo_2 {ta tb : TE} {da db : Den} {r : R2} {g : PV → PV → Option PV} (ha : EOk K mg W ta da) (hb : EOk K mg W tb db) (hr : V2F K r g) : FOk K mg W (tOp r ta tb) (d2 g da db) := by
  intro H₀ S₀ M S σ H ρ Q ab hp
  refine ha.bind (Rl' := rF K) ab hp fun p ρ1 v S1 H1 _ a1 _ r1 hp => ?_
  refine hb.bind (Rl' := rF K) a1 hp fun q ρ2 u S2 H2 _ a2 s2 r2 hp => ?_
  cases e : g p q with
  | none => rw [e] at hp; exact hp.elim
  | some z =>
    rw [e] at hp
    exact hr S2 H2 v u p q z Q a2.sub (r1.up s2) r2 e fun a o n w => hp _ S2 _ (a2.fresh n w).1 (a2.fresh n w).2
theorem eo_2l {i : Nat} {tb : TE} {db : Den} {r : R2} {g : PV → PV → Option PV} (hb : EOk K mg W tb db) (hr : V2 K r g) (hs : ∀ p q z, g p q = some z → z.sc = true) : EOk K mg W (tOp r (tVar i) tb) (d2l g i db) := by
  intro H₀ S₀ M S σ H ρ Q ab hp
  unfold d2l at hp
  cases e0 : slot ρ i with
  | none => rw [e0] at hp; exact hp.elim
  | some p0 =>
    rw [e0] at hp
    obtain ⟨v, _, hv, _⟩ := ab.look e0
    refine ⟨v, hv, ?_⟩
    refine hb.bind (Rl' := rV K) ab hp fun q ρ1 u S1 H1 _ a1 _ r1 hp => ?_
    cases e1 : slot ρ1 i with
    | none => rw [e1] at hp; exact hp.elim
    | some p =>
      rw [e1] at hp
      obtain ⟨v', S2, hv', s2, s3, r2⟩ := a1.look e1
      rw [hv] at hv'
      cases hv'
      cases e : g p q with
      | none => simp only [e] at hp; exact hp.elim
      | some z =>
        simp only [e] at hp
        exact hr S2 H1 v u p q z Q s3 r2 (r1.up s2) e fun v' S3 H3 st rz => hp v' S1 H3 (a1.step (step_of a1.sub st)) (rz.sc (hs _ _ _ e))
theorem eo_2r {i : Nat} {ta : TE} {da : Den} {r : R2} {g : PV → PV → Option PV} (ha : EOk K mg W ta da) (hr : V2 K r g) (hs : ∀ p q z, g p q = some z → z.sc = true) : EOk K mg W (tOp r ta (tVar i)) (d2r g da i) := by
  intro H₀ S₀ M S σ H ρ Q ab hp
  refine ha.bind (Rl' := rV K) ab hp fun p ρ1 v S1 H1 _ a1 _ r1 hp => ?_
  cases e1 : slot ρ1 i with
  | none => rw [e1] at hp; exact hp.elim
  | some q =>
    rw [e1] at hp
    obtain ⟨u, S2, hv', s2, s3, r2⟩ := a1.look e1
    refine ⟨u, hv', ?_⟩
    cases e : g p q with
    | none => simp only [e] at hp; exact hp.elim
    | some z =>
      simp only [e] at hp
      exact hr S2 H1 v u p q z Q s3 (r1.up s2) r2 e fun v' S3 H3 st rz => hp v' S1 H3 (a1.step (step_of a1.sub st)) (rz.sc (hs _ _ _ e))
theorem eo_2b {i j : Nat} {r : R2} {g : PV → PV → Option PV} (hr : V2 K r g) (hs : ∀ p q z, g p q = some z → z.sc = true) : EOk K mg W (tOp r (tVar i) (tVar j)) (d2b g i j) := by
  intro H₀ S₀ M S σ H ρ Q ab hp
  unfold d2b at hp
  cases e0 : slot ρ i with
  | none => rw [e0] at hp; exact hp.elim
  | some p =>
    cases e1 : slot ρ j with
    | none => rw [e0, e1] at hp; exact hp.elim
    | some q =>
      rw [e0, e1] at hp
      obtain ⟨v, u, S2, hv, hu, s2, s3, r1, r2⟩ := ab.look2 e0 e1
      refine ⟨v, hv, u, hu, ?_⟩
      cases e : g p q with
      | none => simp only [e] at hp; exact hp.elim
      | some z =>
        simp only [e] at hp
        exact hr S2 H v u p q z Q s3 r1 r2 e fun v' S3 H3 st rz => hp v' S H3 (ab.step (step_of ab.sub st)) (rz.sc (hs _ _ _ e))
theorem eo_1v {i : Nat} {r : V → Hp → VK → Prop} {g : PV → Option PV} (hr : V1 K r g) (hs : ∀ p z, g p = some z → z.sc = true) : EOk K mg W (tUn r (tVar i)) (d1v g i) := by
  intro H₀ S₀ M S σ H ρ Q ab hp
  unfold d1v at hp
  cases e0 : slot ρ i with
  | none => rw [e0] at hp; exact hp.elim
  | some p =>
    rw [e0] at hp
    obtain ⟨v, S2, hv, s2, s3, r2⟩ := ab.look e0
    refine ⟨v, hv, ?_⟩
    cases e : g p with
    | none => simp only [e] at hp; exact hp.elim
    | some z =>
      simp only [e] at hp
      exact hr S2 H v p z Q s3 r2 e fun v' S3 H3 st rz => hp v' S H3 (ab.step (step_of ab.sub st)) (rz.sc (hs _ _ e))
theorem ao_nil : AOk K mg W tNil dNil := fun H₀ S₀ M S σ H ρ Q ab hp => hp [] S H ab .nil
theorem ao_cons {ta : TE} {da : Den} {tr : TA} {dr : DenL} (ha : EOk K mg W ta da) (hr : AOk K mg W tr dr) : AOk K mg W (tCons ta tr) (dCons da dr) := by
  intro H₀ S₀ M S σ H ρ Q ab hp
  refine ha.bind (Rl' := rL K) ab hp fun p ρ1 v S1 H1 _ a1 _ r1 hp => ?_
  refine hr.bind (Rl' := rL K) a1 hp fun ps ρ2 vs S2 H2 _ a2 s2 r2 hp => ?_
  exact hp _ S2 H2 a2 (.cons (r1.up s2) r2)
theorem eo_n {ta : TA} {da : DenL} {r : List V → Hp → VK → Prop} {g : List PV → Option PV} (ha : AOk K mg W ta da) (hr : VN K r g) : EOk K mg W (tCB r ta) (dN g da) := by
  intro H₀ S₀ M S σ H ρ Q ab hp
  refine ha.bind (Rl' := rV K) ab hp fun p ρ1 v S1 H1 _ a1 _ r1 hp => ?_
  cases e : g p with
  | none => rw [e] at hp; exact hp.elim
  | some z =>
    rw [e] at hp
    exact hr S1 H1 v p z Q a1.sub r1 e fun v' S2 H2 st rz => hp v' S2 H2 (a1.step st) rz
theorem fo_n {ta : TA} {da : DenL} {r : List V → Hp → VK → Prop} {g : List PV → Option PV} (ha : AOk K mg W ta da) (hr : VNF K r g) : FOk K mg W (tCB r ta) (dN g da) := by
  intro H₀ S₀ M S σ H ρ Q ab hp
  refine ha.bind (Rl' := rF K) ab hp fun p ρ1 v S1 H1 _ a1 _ r1 hp => ?_
  cases e : g p with
  | none => rw [e] at hp; exact hp.elim
  | some z =>
    rw [e] at hp
    exact hr S1 H1 v p z Q a1.sub r1 e fun a o n w => hp _ S1 _ (a1.fresh n w).1 (a1.fresh n w).2
/-- one argument, a slot that is only looked at -/
theorem eo_nv {i : Nat} {r : List V → Hp → VK → Prop} {g : List PV → Option PV} (hr : VN K r g) (hs : ∀ p z, g [p] = some z → z.sc = true) : EOk K mg W (tCB r (tCons (tVar i) tNil)) (d1v (fun p => g [p]) i) := by
  intro H₀ S₀ M S σ H ρ Q ab hp
  unfold d1v at hp
  cases e0 : slot ρ i with
  | none => rw [e0] at hp; exact hp.elim
  | some p =>
    rw [e0] at hp
    obtain ⟨v, S2, hv, s2, s3, r2⟩ := ab.look e0
    refine ⟨v, hv, ?_⟩
    cases e : g [p] with
    | none => simp only [e] at hp; exact hp.elim
    | some z =>
      simp only [e] at hp
      exact hr S2 H [v] [p] z Q s3 (.cons r2 .nil) e fun v' S3 H3 st rz => hp v' S H3 (ab.step (step_of ab.sub st)) (rz.sc (hs _ _ e))
theorem eo_if {tc : TT} {dc : DenB} {ta tb : TE} {da db : Den} (hc : TOk K mg W tc dc) (ha : EOk K mg W ta da) (hb : EOk K mg W tb db) : EOk K mg W (tIf tc ta tb) (dIf dc da db) := by
  intro H₀ S₀ M S σ H ρ Q ab hp
  refine hc.bind (Rl' := rV K) ab hp fun c ρ1 b S1 H1 _ a1 _ r1 hp => ?_
  cases r1
  cases c with
  | true => exact ha H₀ S₀ M S1 σ H1 ρ1 Q a1 hp
  | false => exact hb H₀ S₀ M S1 σ H1 ρ1 Q a1 hp
theorem to_and {ta tb : TT} {da db : DenB} (ha : TOk K mg W ta da) (hb : TOk K mg W tb db) : TOk K mg W (tAnd ta tb) (bAnd da db) := by
  intro H₀ S₀ M S σ H ρ Q ab hp
  refine ha.bind (Rl' := rB) ab hp fun c ρ1 b S1 H1 _ a1 _ r1 hp => ?_
  cases r1
  cases c with
  | true => exact hb H₀ S₀ M S1 σ H1 ρ1 Q a1 hp
  | false => exact hp false S1 H1 a1 rfl
theorem to_or {ta tb : TT} {da db : DenB} (ha : TOk K mg W ta da) (hb : TOk K mg W tb db) : TOk K mg W (tOr ta tb) (bOr da db) := by
  intro H₀ S₀ M S σ H ρ Q ab hp
  refine ha.bind (Rl' := rB) ab hp fun c ρ1 b S1 H1 _ a1 _ r1 hp => ?_
  cases r1
  cases c with
  | true => exact hp true S1 H1 a1 rfl
  | false => exact hb H₀ S₀ M S1 σ H1 ρ1 Q a1 hp
theorem to_not {ta : TT} {da : DenB} (ha : TOk K mg W ta da) : TOk K mg W (tNot ta) (bNot da) := by
  intro H₀ S₀ M S σ H ρ Q ab hp
  refine ha.bind (Rl' := rB) ab hp fun c ρ1 b S1 H1 _ a1 _ r1 hp => ?_
  cases r1
  exact hp _ S1 H1 a1 rfl
theorem to_val {ta : TE} {da : Den} (ha : EOk K mg W ta da) : TOk K mg W (tTest ta) (bVal da) := by
  intro H₀ S₀ M S σ H ρ Q ab hp
  refine ha.bind (Rl' := rB) ab hp fun p ρ1 v S1 H1 _ a1 _ r1 hp => ?_
  cases p with
  | bl b =>
    cases r1
    exact ⟨b, rfl, hp b S1 H1 a1 rfl⟩
  | _ => exact hp.elim
theorem to_tru {ta : TE} {da : Den} {r : V → Hp → (Bool → Hp → Prop) → Prop} (ha : EOk K mg W ta da) (hr : VT K r truth) : TOk K mg W (fun σ H Q => ta σ H fun x H' => r x H' Q) (bTru da) := by
  intro H₀ S₀ M S σ H ρ Q ab hp
  refine ha.bind (Rl' := rB) ab hp fun p ρ1 v S1 H1 _ a1 _ r1 hp => ?_
  cases e : truth p with
  | none => rw [e] at hp; exact hp.elim
  | some z =>
    rw [e] at hp
    exact hr S1 H1 v p z Q a1.sub r1 e (hp z S1 H1 a1 rfl)
theorem to_truv {i : Nat} {r : V → Hp → (Bool → Hp → Prop) → Prop} (hr : VT K r truth) : TOk K mg W (fun σ H Q => tVar i σ H fun x H' => r x H' Q) (bTruV i) := by
  intro H₀ S₀ M S σ H ρ Q ab hp
  unfold bTruV at hp
  cases e0 : slot ρ i with
  | none => rw [e0] at hp; exact hp.elim
  | some p =>
    rw [e0] at hp
    obtain ⟨v, S2, hv, s2, s3, r2⟩ := ab.look e0
    refine ⟨v, hv, ?_⟩
    cases e : truth p with
    | none => simp only [e] at hp; exact hp.elim
    | some z =>
      simp only [e] at hp
      exact hr S2 H v p z Q s3 r2 e (hp z S H ab rfl)
end
end PL

set_option Elab.async false
set_option linter.all false
set_option maxRecDepth 100000
set_option maxHeartbeats 4000000
namespace PL
open PySem PySem.Spec L2
set_option autoImplicit false

inductive RS where
  | bad | exc (x : Exn) (ρ : Env) | nx (ρ : Env) | rt (p : PV) (ρ : Env) | bk (ρ : Env) | ct (ρ : Env)
def Rs.bindS {α : Type} (r : Rs α) (k : α → Env → RS) : RS := match r with
  | .bad => .bad
  | .exc x ρ => .exc x ρ
  | .ok a ρ => k a ρ
@[simp] theorem bindS_ok {α : Type} (a : α) (ρ : Env) (k : α → Env → RS) : (Rs.ok a ρ).bindS k = k a ρ := id rfl
@[simp] theorem bindS_exc {α : Type} (x : Exn) (ρ : Env) (k : α → Env → RS) : (Rs.exc x ρ).bindS k = .exc x ρ := id rfl
@[simp] theorem bindS_bad {α : Type} (k : α → Env → RS) : (Rs.bad : Rs α).bindS k = .bad := id rfl
abbrev DenS := Env → RS
/-- how a value comes back: fresh or shared -/
def RetRep (fr : Bool) (K : PySem.W.Frag) (H₀ S H : Hp) (σ : St) (ρ : Env) (p : PV) (v : V) : Prop := if fr = true then Fr K H₀ S H σ ρ p v else Rep K S p v
def SPost (K : PySem.W.Frag) (mg : Str → Option Value) (W : WX) (fr : Bool) (H₀ S₀ : Hp) (M : Addr → Prop) (r : RS) (D : Ends) : Prop :=
  match r with
  | .bad => False
  | .exc x ρ' => ∀ cls dd S' σ' H', Abs K H₀ S₀ M S' σ' H' ρ' → ExcRep K mg S' H' x cls dd → W cls dd σ' H'
  | .nx ρ' => ∀ S' σ' H', Abs K H₀ S₀ M S' σ' H' ρ' → D.nx σ' H'
  | .bk ρ' => ∀ S' σ' H', Abs K H₀ S₀ M S' σ' H' ρ' → D.bk σ' H'
  | .ct ρ' => ∀ S' σ' H', Abs K H₀ S₀ M S' σ' H' ρ' → D.ct σ' H'
  | .rt p ρ' => ∀ v S' σ' H', Abs K H₀ S₀ M S' σ' H' ρ' → RetRep fr K H₀ S' H' σ' ρ' p v → D.rt v H'
def SOk (K : PySem.W.Frag) (mg : Str → Option Value) (W : WX) (fr : Bool) (t : TS) (d : DenS) : Prop :=
  ∀ (H₀ S₀ : Hp) (M : Addr → Prop) (S : Hp) (σ : St) (H : Hp) (ρ : Env) (D : Ends), Abs K H₀ S₀ M S σ H ρ → SPost K mg W fr H₀ S₀ M (d ρ) D → t D σ H

section
variable {K : PySem.W.Frag} {mg : Str → Option Value} {W : WX} {fr : Bool} {H₀ S₀ : Hp} {M : Addr → Prop} {S H : Hp} {σ : St} {ρ : Env}
/-- the same ends, over a later base -/
theorem SPost.rebase {S1 σ1 H1 ρ1} (ab : Abs K H₀ S₀ M S1 σ1 H1 ρ1) {r : RS} {D : Ends} (h : SPost K mg W fr H₀ S₀ M r D) : SPost K mg W fr H₀ S1 M r D := by
  cases r with
  | bad => exact h
  | exc x ρ' => exact fun cls dd S' σ' H' a r => h cls dd S' σ' H' (ab.unbase a) r
  | nx ρ' => exact fun S' σ' H' a => h S' σ' H' (ab.unbase a)
  | bk ρ' => exact fun S' σ' H' a => h S' σ' H' (ab.unbase a)
  | ct ρ' => exact fun S' σ' H' a => h S' σ' H' (ab.unbase a)
  | rt p ρ' => exact fun v S' σ' H' a r => h v S' σ' H' (ab.unbase a) r
theorem XOk.bindS {α β : Type} {Rl : RelT α β} {t : St → Hp → (β → Hp → Prop) → Prop} {d : Env → Rs α} (h : XOk K mg W Rl t d) (ab : Abs K H₀ S₀ M S σ H ρ) {k : α → Env → RS} {D : Ends} {Q1 : β → Hp → Prop}
    (hp : SPost K mg W fr H₀ S₀ M ((d ρ).bindS k) D)
    (hk : ∀ a ρ1 b S1 H1, d ρ = .ok a ρ1 → Abs K H₀ S₀ M S1 σ H1 ρ1 → Same S S1 → Rl H₀ S1 H1 σ ρ1 a b → SPost K mg W fr H₀ S₀ M (k a ρ1) D → Q1 b H1) : t σ H Q1 := by
  refine h H₀ S M S σ H ρ Q1 ab.rebase ?_
  cases e : d ρ with
  | bad => rw [e] at hp; exact hp
  | exc x ρ1 =>
    rw [e] at hp
    exact fun cls dd S' H' a1 r => hp cls dd S' σ H' (ab.unbase a1) r
  | ok a ρ1 =>
    rw [e] at hp
    exact fun b S1 H1 a1 r => hk a ρ1 b S1 H1 e (ab.unbase a1) a1.base r hp

/-! ### small statements -/
def sNx : DenS := fun ρ => .nx ρ
def sBk : DenS := fun ρ => .bk ρ
def sCt : DenS := fun ρ => .ct ρ
def sSeq (a b : DenS) : DenS := fun ρ => match a ρ with
  | .nx ρ1 => b ρ1
  | r => r
def sExpr (da : Den) : DenS := fun ρ => (da ρ).bindS fun _ ρ1 => .nx ρ1
def sRet (da : Den) : DenS := fun ρ => (da ρ).bindS fun p ρ1 => .rt p ρ1
def sRetN : DenS := fun ρ => .rt .non ρ
def sRetO (i : Nat) : DenS := fun ρ => match ρ[i]? with
  | some (.ow p) => .rt p (ρ.set i .un)
  | _ => .bad
def sIf (dc : DenB) (a b : DenS) : DenS := fun ρ => (dc ρ).bindS fun c ρ1 => if c = true then a ρ1 else b ρ1
def sSet (i : Nat) (da : Den) : DenS := fun ρ => (da ρ).bindS fun p ρ1 => .nx (ρ1.set i (.sh p))
def sSetF (i : Nat) (da : Den) : DenS := fun ρ => (da ρ).bindS fun p ρ1 => .nx (ρ1.set i (.ow p))
abbrev DenG := PV → Env → Option Env
def sAsg (da : Den) (dg : DenG) : DenS := fun ρ => (da ρ).bindS fun p ρ1 => match dg p ρ1 with
  | some ρ2 => .nx ρ2
  | none => .bad
def sAug (i : Nat) (g : PV → PV → Option PV) (da : Den) : DenS := fun ρ => match slot ρ i with
  | none => .bad
  | some _ => (da ρ).bindS fun q ρ1 => match slot ρ1 i with
    | none => .bad
    | some p => match g p q with
      | some z => .nx (ρ1.set i (.sh z))
      | none => .bad
def gName (i : Nat) : DenG := fun p ρ => some (ρ.set i (.sh p))
def GOk (K : PySem.W.Frag) (g : TG) (dg : DenG) : Prop :=
  ∀ (H₀ S₀ : Hp) (M : Addr → Prop) (S : Hp) (σ : St) (H : Hp) (ρ ρ' : Env) (p : PV) (v : V) (Q : St → Hp → Prop), Abs K H₀ S₀ M S σ H ρ → Rep K S p v → dg p ρ = some ρ' → (∀ σ', Abs K H₀ S₀ M S σ' H ρ' → Q σ' H) → g v σ H Q
def GsOk (K : PySem.W.Frag) (g : TGs) (dg : List PV → Env → Option Env) : Prop :=
  ∀ (H₀ S₀ : Hp) (M : Addr → Prop) (S : Hp) (σ : St) (H : Hp) (ρ ρ' : Env) (ps : List PV) (vs : List V) (Q : St → Hp → Prop), Abs K H₀ S₀ M S σ H ρ → RepL K S ps vs → dg ps ρ = some ρ' → (∀ σ', Abs K H₀ S₀ M S σ' H ρ' → Q σ' H) → g vs σ H Q
def gsNil : List PV → Env → Option Env
  | [], ρ => some ρ
  | _ :: _, _ => none
def gsCons (a : DenG) (b : List PV → Env → Option Env) : List PV → Env → Option Env
  | [], _ => none
  | p :: ps, ρ => (a p ρ).bind (b ps)
def gTup (b : List PV → Env → Option Env) : DenG := fun p ρ => match p with
  | .tup ps => b ps ρ
  | _ => none
theorem go_name {i : Nat} : GOk K (L2.gName i) (gName i) := fun H₀ S₀ M S σ H ρ ρ' p v Q ab r e h => by
  cases e
  exact h _ (ab.setSh r)
theorem gso_nil : GsOk K L2.gNil gsNil := fun H₀ S₀ M S σ H ρ ρ' ps vs Q ab r e h => by
  cases r with
  | nil =>
    cases e
    exact ⟨rfl, h _ ab⟩
  | cons _ _ => cases e
theorem gso_cons {g : TG} {dg : DenG} {gs : TGs} {dgs : List PV → Env → Option Env} (h1 : GOk K g dg) (h2 : GsOk K gs dgs) : GsOk K (L2.gCons g gs) (gsCons dg dgs) := fun H₀ S₀ M S σ H ρ ρ' ps vs Q ab r e h => by
  cases r with
  | nil => cases e
  | cons r1 r2 =>
    rename_i p v ps vs
    unfold gsCons at e
    cases e1 : dg p ρ with
    | none => simp only [e1] at e; cases e
    | some ρ1 =>
      simp only [e1] at e
      exact ⟨_, _, rfl, h1 H₀ S₀ M S σ H ρ ρ1 p v _ ab r1 e1 fun σ1 a1 => h2 H₀ S₀ M S σ1 H ρ1 ρ' ps vs Q a1 r2 e h⟩
theorem gsCons_len {n : Nat} {dg : DenG} {dgs : List PV → Env → Option Env} (h : ∀ ps ρ ρ', dgs ps ρ = some ρ' → ps.length = n) : ∀ ps ρ ρ', gsCons dg dgs ps ρ = some ρ' → ps.length = n + 1
  | [], _, _, e => by cases e
  | p :: ps, ρ, ρ', e => by
    unfold gsCons at e
    cases e1 : dg p ρ with
    | none => simp only [e1] at e; cases e
    | some ρ1 =>
      simp only [e1] at e
      rw [List.length_cons, h ps ρ1 ρ' e]
theorem gsNil_len : ∀ ps ρ ρ', gsNil ps ρ = some ρ' → ps.length = 0
  | [], _, _, _ => rfl
  | _ :: _, _, _, e => by cases e
theorem go_tup {n : Nat} {gs : TGs} {dgs : List PV → Env → Option Env} (h1 : GsOk K gs dgs) (hn : ∀ ps ρ ρ', dgs ps ρ = some ρ' → ps.length = n) : GOk K (L2.gTup K n gs) (gTup dgs) := fun H₀ S₀ M S σ H ρ ρ' p v Q ab r e h => by
  cases p with
  | tup ps =>
    cases r with
    | tup hs hr =>
      refine ⟨_, _, rfl, .inl (.inl (ab.sub _ _ hs)), ?_, h1 H₀ S₀ M S σ H ρ ρ' ps _ Q ab hr e h⟩
      rw [← hr.length]
      exact hn ps ρ ρ' e
  | _ => cases e

theorem so_nx : SOk K mg W fr tNext sNx := fun H₀ S₀ M S σ H ρ D ab hp => hp S σ H ab
theorem so_bk : SOk K mg W fr tBreak sBk := fun H₀ S₀ M S σ H ρ D ab hp => hp S σ H ab
theorem so_ct : SOk K mg W fr tCont sCt := fun H₀ S₀ M S σ H ρ D ab hp => hp S σ H ab
theorem so_seq {t u : TS} {a b : DenS} (ha : SOk K mg W fr t a) (hb : SOk K mg W fr u b) : SOk K mg W fr (tSeq t u) (sSeq a b) := fun H₀ S₀ M S σ H ρ D ab hp => by
  refine ha H₀ S₀ M S σ H ρ _ ab ?_
  unfold sSeq at hp
  cases e : a ρ with
  | nx ρ1 =>
    rw [e] at hp
    exact fun S' σ' H' a1 => hb H₀ S₀ M S' σ' H' ρ1 D a1 hp
  | bad => rw [e] at hp; exact hp
  | exc x ρ1 => rw [e] at hp; exact hp
  | rt p ρ1 => rw [e] at hp; exact hp
  | bk ρ1 => rw [e] at hp; exact hp
  | ct ρ1 => rw [e] at hp; exact hp
theorem so_expr {te : TE} {da : Den} (ha : EOk K mg W te da) : SOk K mg W fr (tDrop te) (sExpr da) := fun H₀ S₀ M S σ H ρ D ab hp =>
  ha.bindS ab hp fun p ρ1 v S1 H1 _ a1 _ r hp => hp S1 σ H1 a1
theorem so_ret {te : TE} {da : Den} (ha : EOk K mg W te da) : SOk K mg W false (tRet te) (sRet da) := fun H₀ S₀ M S σ H ρ D ab hp =>
  ha.bindS ab hp fun p ρ1 v S1 H1 _ a1 _ r hp => hp v S1 σ H1 a1 r
theorem so_retF {te : TE} {da : Den} (ha : FOk K mg W te da) : SOk K mg W true (tRet te) (sRet da) := fun H₀ S₀ M S σ H ρ D ab hp =>
  ha.bindS ab hp fun p ρ1 v S1 H1 _ a1 _ r hp => hp v S1 σ H1 a1 r
theorem so_retN : SOk K mg W false tRetN sRetN := fun H₀ S₀ M S σ H ρ D ab hp => hp .non S σ H ab .non
theorem so_retO {i : Nat} : SOk K mg W true (tRet (tVar i)) (sRetO i) := fun H₀ S₀ M S σ H ρ D ab hp => by
  unfold sRetO at hp
  cases e : ρ[i]? with
  | none => rw [e] at hp; exact hp.elim
  | some s =>
    rw [e] at hp
    cases s with
    | ow p =>
      obtain ⟨a, o, h1, h2, h3, h4, h5, h6⟩ := ab.own i _ _ e rfl
      have hi : i < ρ.length := (List.getElem?_eq_some_iff.mp e).1
      have ne : ∀ {j : Nat} {s : Sl}, (ρ.set i .un)[j]? = some s → s ≠ .un → j ≠ i ∧ ρ[j]? = some s := fun {j s} ej hs => by
        by_cases hj : j = i
        · subst hj
          rw [List.getElem?_set_self hi] at ej
          cases ej
          exact absurd rfl hs
        · rw [List.getElem?_set_ne (Ne.symm hj)] at ej
          exact ⟨hj, ej⟩
      have nu : ∀ {s : Sl} {q : PV}, s.own? = some q → s ≠ .un := fun {s q} h z => by subst z; cases h
      refine ⟨.ref a, h1, hp (.ref a) S σ H ⟨by rw [List.length_set]; exact ab.len, ab.sub, ab.base, ab.grow, ab.keep, ab.there, fun j q ej => ab.sh j q (ne ej (by intro z; cases z)).2, fun j s q ej es => ab.own j s q (ne ej (nu es)).2 es,
        fun j k s t q r c ej es ek et z z' => ab.dis j k s t q r c (ne ej (nu es)).2 es (ne ek (nu et)).2 et z z'⟩ ?_⟩
      exact ⟨a, o, rfl, h2 rfl, h4, h5, h6, fun j s q ej es z => (ne ej (nu es)).1 (ab.dis j i _ _ _ _ a (ne ej (nu es)).2 es e rfl z h1)⟩
    | _ => exact hp.elim
theorem so_if {tc : TT} {dc : DenB} {t u : TS} {a b : DenS} (hc : TOk K mg W tc dc) (ha : SOk K mg W fr t a) (hb : SOk K mg W fr u b) : SOk K mg W fr (tIfS tc t u) (sIf dc a b) := fun H₀ S₀ M S σ H ρ D ab hp =>
  hc.bindS ab hp fun c ρ1 b' S1 H1 _ a1 _ r hp => by
    cases r
    cases c with
    | true => exact ha H₀ S₀ M S1 σ H1 ρ1 D a1 hp
    | false => exact hb H₀ S₀ M S1 σ H1 ρ1 D a1 hp
theorem so_set {i : Nat} {te : TE} {da : Den} (ha : EOk K mg W te da) : SOk K mg W fr (tAsg te (L2.gName i)) (sSet i da) := fun H₀ S₀ M S σ H ρ D ab hp =>
  ha.bindS ab hp fun p ρ1 v S1 H1 _ a1 _ r hp => hp S1 _ H1 (a1.setSh r)
theorem so_setF {i : Nat} {te : TE} {da : Den} (ha : FOk K mg W te da) : SOk K mg W fr (tAsg te (L2.gName i)) (sSetF i da) := fun H₀ S₀ M S σ H ρ D ab hp =>
  ha.bindS ab hp fun p ρ1 v S1 H1 _ a1 _ r hp => hp S1 _ H1 (a1.setOw r)
theorem so_asg {te : TE} {da : Den} {g : TG} {dg : DenG} (ha : EOk K mg W te da) (hg : GOk K g dg) : SOk K mg W fr (tAsg te g) (sAsg da dg) := fun H₀ S₀ M S σ H ρ D ab hp =>
  ha.bindS ab hp fun p ρ1 v S1 H1 _ a1 _ r hp => by
    cases e : dg p ρ1 with
    | none => simp only [e] at hp; exact hp.elim
    | some ρ2 =>
      simp only [e] at hp
      exact hg H₀ S₀ M S1 σ H1 ρ1 ρ2 p v _ a1 r e fun σ' a2 => hp S1 σ' H1 a2
theorem so_aug {i : Nat} {te : TE} {da : Den} {r : R2} {g : PV → PV → Option PV} (ha : EOk K mg W te da) (hr : V2 K r g) (hs : ∀ p q z, g p q = some z → z.sc = true) : SOk K mg W fr (tAug i te r) (sAug i g da) := fun H₀ S₀ M S σ H ρ D ab hp => by
  unfold sAug at hp
  cases e0 : slot ρ i with
  | none => rw [e0] at hp; exact hp.elim
  | some p0 =>
    rw [e0] at hp
    obtain ⟨v, _, hv, _⟩ := ab.look e0
    refine ⟨v, hv, ha.bindS ab hp fun q ρ1 u S1 H1 _ a1 _ r1 hp => ?_⟩
    cases e1 : slot ρ1 i with
    | none => rw [e1] at hp; exact hp.elim
    | some p =>
      rw [e1] at hp
      obtain ⟨v', S2, hv', s2, s3, r2⟩ := a1.look e1
      rw [hv] at hv'
      cases hv'
      cases e : g p q with
      | none => simp only [e] at hp; exact hp.elim
      | some z =>
        simp only [e] at hp
        exact hr S2 H1 v u p q z _ s3 r2 (r1.up s2) e fun v' S3 H3 st rz => hp S1 _ H3 ((a1.step (step_of a1.sub st)).setSh (rz.sc (hs _ _ _ e)))

/-! ### what changes an owned object in a slot -/
/-- by values: the object at b, the arguments; g: what it becomes, what comes back -/
def MutOk (K : PySem.W.Frag) (r : V → List V → Hp → VK → Prop) (g : PV → List PV → Option (PV × PV)) : Prop :=
  ∀ (S H : Hp) (b : Addr) (o : HO) (p q z : PV) (ps : List PV) (vs : List V) (Q : VK), Same S H → S b = none → H b = some o → OwnO K S p o → RepL K S ps vs → g p ps = some (q, z) → (∀ o' v, OwnO K S q o' → Rep K S z v → Q v (upd H b o')) → r (.ref b) vs H Q
def ownAt (ρ : Env) (i : Nat) : Option (Sl × PV) := match ρ[i]? with
  | some (.ow p) => some (.ow p, p)
  | some (.io p) => some (.io p, p)
  | _ => none
theorem ownAt_some {ρ : Env} {i : Nat} {s : Sl} {p : PV} (h : ownAt ρ i = some (s, p)) : ρ[i]? = some s ∧ s.own? = some p := by
  unfold ownAt at h
  split at h
  · cases h; exact ⟨by assumption, rfl⟩
  · cases h; exact ⟨by assumption, rfl⟩
  · cases h
def isT (T : String) : PV → Bool
  | .lst _ => T = "list"
  | .dic _ _ _ => T = "dict"
  | _ => false
theorem tyV_own {S H : Hp} {T : String} {p : PV} {a : Addr} {o : HO} (h : H a = some o) (w : OwnO K S p o) (t : isT T p = true) : tyV K T (.ref a) H := by
  unfold OwnO at w
  split at w
  · exact .inl ⟨by simpa [isT] using t, _, .inl (.inl h)⟩
  · exact .inr (.inr (.inl ⟨by simpa [isT] using t, .inl ⟨_, h⟩⟩))
  · exact .inr (.inr (.inl ⟨by simpa [isT] using t, .inr ⟨_, h⟩⟩))
  · exact w.elim
def dMut (T : String) (g : PV → List PV → Option (PV × PV)) (i : Nat) (da : DenL) : Den := fun ρ => match ownAt ρ i with
  | none => .bad
  | some (_, p0) => if isT T p0 = true then (da ρ).bind fun ps ρ1 => match ownAt ρ1 i with
    | none => .bad
    | some (s, p) => match g p ps with
      | none => .bad
      | some (q, z) => .ok z (ρ1.set i (s.with q))
    else .bad
theorem eo_mut {T : String} {i : Nat} {ta : TA} {da : DenL} {r : V → List V → Hp → VK → Prop} {g : PV → List PV → Option (PV × PV)} (ha : AOk K mg W ta da) (hr : MutOk K r g) : EOk K mg W (tBM K T r (tVar i) ta) (dMut T g i da) := fun H₀ S₀ M S σ H ρ Q ab hp => by
  unfold dMut at hp
  cases e0 : ownAt ρ i with
  | none => rw [e0] at hp; exact hp.elim
  | some sp =>
    obtain ⟨s0, p0⟩ := sp
    rw [e0] at hp
    by_cases ht : isT T p0 = true
    · simp only [if_pos ht] at hp
      obtain ⟨e1, e2⟩ := ownAt_some e0
      obtain ⟨b, o, h1, h2, h3, h4, h5, h6⟩ := ab.own i _ _ e1 e2
      refine ⟨.ref b, h1, tyV_own h5 h6 ht, ?_⟩
      refine ha.bind (Rl' := rV K) ab hp fun ps ρ1 vs S1 H1 _ a1 s1 r1 hp => ?_
      cases e3 : ownAt ρ1 i with
      | none => rw [e3] at hp; exact hp.elim
      | some sp =>
        obtain ⟨s, p⟩ := sp
        rw [e3] at hp
        obtain ⟨e4, e5⟩ := ownAt_some e3
        obtain ⟨b', o', k1, k2, k3, k4, k5, k6⟩ := a1.own i _ _ e4 e5
        rw [h1] at k1
        cases k1
        cases e6 : g p ps with
        | none => simp only [e6] at hp; exact hp.elim
        | some qz =>
          obtain ⟨q, z⟩ := qz
          simp only [e6] at hp
          exact hr S1 H1 b o' p q z ps vs Q a1.sub k4 k5 k6 r1 e6 fun o2 v w2 rz => hp v S1 _ (a1.mut e4 e5 h1 w2) rz
    · simp only [if_neg ht] at hp
      exact hp.elim
def dMut0 (T : String) (g : PV → List PV → Option (PV × PV)) (i : Nat) : Den := fun ρ => match ownAt ρ i with
  | none => .bad
  | some (s, p) => if isT T p = true then (match g p [] with
      | none => .bad
      | some (q, z) => .ok z (ρ.set i (s.with q))) else .bad
theorem eo_mut0 {T : String} {i : Nat} {r : V → List V → Hp → VK → Prop} {g : PV → List PV → Option (PV × PV)} (hr : MutOk K r g) : EOk K mg W (tBM0 K T r (tVar i)) (dMut0 T g i) := fun H₀ S₀ M S σ H ρ Q ab hp => by
  unfold dMut0 at hp
  cases e0 : ownAt ρ i with
  | none => rw [e0] at hp; exact hp.elim
  | some sp =>
    obtain ⟨s, p⟩ := sp
    rw [e0] at hp
    by_cases ht : isT T p = true
    · simp only [if_pos ht] at hp
      obtain ⟨e1, e2⟩ := ownAt_some e0
      obtain ⟨b, o, h1, h2, h3, h4, h5, h6⟩ := ab.own i _ _ e1 e2
      refine ⟨.ref b, h1, tyV_own h5 h6 ht, ?_⟩
      cases e6 : g p [] with
      | none => simp only [e6] at hp; exact hp.elim
      | some qz =>
        obtain ⟨q, z⟩ := qz
        simp only [e6] at hp
        exact hr S H b o p q z [] [] Q ab.sub h4 h5 h6 .nil e6 fun o2 v w2 rz => hp v S _ (ab.mut e1 e2 h1 w2) rz
    · simp only [if_neg ht] at hp
      exact hp.elim
/-- x[e] = v by values -/
def SetOk (K : PySem.W.Frag) (t : TSet) (g : PV → PV → PV → Option PV) : Prop :=
  ∀ (S H : Hp) (b : Addr) (o : HO) (p i e q : PV) (x y : V) (Q : Hp → Prop), Same S H → S b = none → H b = some o → OwnO K S p o → Rep K S i x → Rep K S e y → g p i e = some q → (∀ o', OwnO K S q o' → Q (upd H b o')) → t (.ref b) x y H Q
def sSub (g : PV → PV → PV → Option PV) (i : Nat) (di da : Den) : DenS := fun ρ => (da ρ).bindS fun e ρ1 => match ownAt ρ1 i with
  | none => .bad
  | some _ => (di ρ1).bindS fun k ρ2 => match ownAt ρ2 i with
    | none => .bad
    | some (s, p) => match g p k e with
      | none => .bad
      | some q => .nx (ρ2.set i (s.with q))
theorem so_sub {i : Nat} {ti te : TE} {di da : Den} {t : TSet} {g : PV → PV → PV → Option PV} (hi : EOk K mg W ti di) (ha : EOk K mg W te da) (hr : SetOk K t g) : SOk K mg W fr (tAsg te (gSub (tVar i) ti t)) (sSub g i di da) := fun H₀ S₀ M S σ H ρ D ab hp =>
  ha.bindS ab hp fun e ρ1 y S1 H1 _ a1 _ ry hp => by
    cases e0 : ownAt ρ1 i with
    | none => rw [e0] at hp; exact hp.elim
    | some sp =>
      obtain ⟨s0, p0⟩ := sp
      rw [e0] at hp
      obtain ⟨e1, e2⟩ := ownAt_some e0
      obtain ⟨b, o, h1, h2, h3, h4, h5, h6⟩ := a1.own i _ _ e1 e2
      refine ⟨.ref b, h1, ?_⟩
      refine hi.bindS a1 hp fun k ρ2 x S2 H2 _ a2 s2 rx hp => ?_
      cases e3 : ownAt ρ2 i with
      | none => rw [e3] at hp; exact hp.elim
      | some sp =>
        obtain ⟨s, p⟩ := sp
        rw [e3] at hp
        obtain ⟨e4, e5⟩ := ownAt_some e3
        obtain ⟨b', o', k1, k2, k3, k4, k5, k6⟩ := a2.own i _ _ e4 e5
        rw [h1] at k1
        cases k1
        cases e6 : g p k e with
        | none => simp only [e6] at hp; exact hp.elim
        | some q =>
          simp only [e6] at hp
          exact hr S2 H2 b o' p k e q x y _ a2.sub k4 k5 k6 rx (ry.up s2) e6 fun o2 w2 => hp S2 σ _ (a2.mut e4 e5 h1 w2)

/-! ### loops -/
def ItR (K : PySem.W.Frag) (S H : Hp) (ps : List PV) (J : It) : Prop :=
  ∀ (i : Nat) (S1 H1 : Hp), Same S S1 → Same S1 H1 → (ps.length ≤ i → J.stop i H1) ∧ ∀ p, ps[i]? = some p → J.go i H1 ∧ ∀ x H2, J.yld i H1 x H2 → ∃ S2, Step S1 H1 S2 H2 ∧ Rep K S2 p x
def rIt (K : PySem.W.Frag) : RelT (List PV) It := fun _ S H _ _ ps J => ItR K S H ps J
abbrev IOk (K : PySem.W.Frag) (mg : Str → Option Value) (W : WX) (wi : TI) (d : DenL) : Prop := XOk K mg W (rIt K) wi d
def dLoop (tgt : DenG) (body : DenS) : List PV → DenS
  | [], ρ => .nx ρ
  | x :: xs, ρ => match tgt x ρ with
    | none => .bad
    | some ρ1 => match body ρ1 with
      | .nx ρ2 => dLoop tgt body xs ρ2
      | .ct ρ2 => dLoop tgt body xs ρ2
      | .bk ρ2 => .nx ρ2
      | r => r
def sFor (di : DenL) (tgt : DenG) (body : DenS) : DenS := fun ρ => (di ρ).bindS fun xs ρ1 => dLoop tgt body xs ρ1
theorem so_for {wi : TI} {di : DenL} {g : TG} {dg : DenG} {tb : TS} {db : DenS} (hi : IOk K mg W wi di) (hg : GOk K g dg) (hb : SOk K mg W fr tb db) : SOk K mg W fr (tFor wi g tb) (sFor di dg db) := fun H₀ S₀ M S σ H ρ D ab hp =>
  hi.bindS ab hp fun xs ρ1 J S1 H1 _ a1 _ rj hp => by
    refine ⟨fun i m σ H => m = xs.length - i ∧ i ≤ xs.length ∧ ∃ S ρ, Abs K H₀ S1 M S σ H ρ ∧ SPost K mg W fr H₀ S1 M (dLoop dg db (xs.drop i) ρ) D, ⟨xs.length, by simp, Nat.zero_le _, S1, ρ1, a1.rebase, by
      rw [List.drop_zero]
      exact hp.rebase a1⟩, ?_⟩
    rintro i m σ' H' ⟨rfl, hle, S', ρ', a', hp'⟩
    obtain ⟨js, jg⟩ := rj i S' H' a'.base a'.sub
    by_cases hlt : i < xs.length
    · have ex : xs[i]? = some xs[i] := List.getElem?_eq_getElem hlt
      obtain ⟨j1, j2⟩ := jg _ ex
      rw [List.drop_eq_getElem_cons hlt] at hp'
      refine .inr ⟨j1, fun σ H => i + 1 ≤ xs.length ∧ ∃ S ρ, Abs K H₀ S1 M S σ H ρ ∧ SPost K mg W fr H₀ S1 M (dLoop dg db (xs.drop (i + 1)) ρ) D, fun σ2 H2 hN => ⟨xs.length - (i + 1), by omega, rfl, hN.1, hN.2⟩, fun x H2 y => ?_⟩
      obtain ⟨S2, st, rx⟩ := j2 x H2 y
      unfold dLoop at hp'
      cases e1 : dg xs[i] ρ' with
      | none => simp only [e1] at hp'; exact hp'.elim
      | some ρ2 =>
        simp only [e1] at hp'
        refine hg H₀ S1 M S2 σ' H2 ρ' ρ2 _ x _ (a'.step st) rx e1 fun σ3 a3 => ?_
        refine hb H₀ S1 M S2 σ3 H2 ρ2 _ a3 ?_
        cases e2 : db ρ2 with
        | bad => simp only [e2] at hp'; exact hp'.elim
        | exc x ρ3 => simp only [e2] at hp'; exact hp'
        | rt p ρ3 => simp only [e2] at hp'; exact hp'
        | nx ρ3 => simp only [e2] at hp'; exact fun S4 σ4 H4 a4 => ⟨hlt, S4, ρ3, a4, hp'⟩
        | ct ρ3 => simp only [e2] at hp'; exact fun S4 σ4 H4 a4 => ⟨hlt, S4, ρ3, a4, hp'⟩
        | bk ρ3 => simp only [e2] at hp'; exact fun S4 σ4 H4 a4 => hp' S4 σ4 H4 a4
    · have ei : i = xs.length := by omega
      subst ei
      rw [List.drop_length] at hp'
      exact .inl ⟨js (Nat.le_refl _), hp' S' σ' H' a'⟩
def dWhile (dc : DenB) (db : DenS) : Nat → DenS
  | 0, _ => .bad
  | n + 1, ρ => (dc ρ).bindS fun c ρ1 => if c = true then (match db ρ1 with
      | .nx ρ2 => dWhile dc db n ρ2
      | .ct ρ2 => dWhile dc db n ρ2
      | .bk ρ2 => .nx ρ2
      | r => r) else .nx ρ1
/-- the number of turns is bounded by what the state says ahead of the loop -/
def sWhile (μ : Env → Nat) (dc : DenB) (db : DenS) : DenS := fun ρ => dWhile dc db (μ ρ) ρ
theorem so_while {μ : Env → Nat} {tc : TT} {dc : DenB} {tb : TS} {db : DenS} (hc : TOk K mg W tc dc) (hb : SOk K mg W fr tb db) : SOk K mg W fr (tWhile tc tb) (sWhile μ dc db) := fun H₀ S₀ M S σ H ρ D ab hp => by
  refine ⟨fun m σ H => ∃ S ρ, Abs K H₀ S₀ M S σ H ρ ∧ SPost K mg W fr H₀ S₀ M (dWhile dc db m ρ) D, ⟨μ ρ, S, ρ, ab, hp⟩, ?_⟩
  rintro m σ' H' ⟨S', ρ', a', hp'⟩
  cases m with
  | zero => exact hp'.elim
  | succ n =>
    unfold dWhile at hp'
    refine hc.bindS a' hp' fun c ρ1 b S1 H1 _ a1 _ r hp' => ?_
    cases r
    cases c with
    | false => exact hp' S1 σ' H1 a1
    | true =>
      refine ⟨fun σ H => ∃ S ρ, Abs K H₀ S₀ M S σ H ρ ∧ SPost K mg W fr H₀ S₀ M (dWhile dc db n ρ) D, fun σ2 H2 h2 => ⟨n, Nat.lt_succ_self _, h2⟩, ?_⟩
      refine hb H₀ S₀ M S1 σ' H1 ρ1 _ a1 ?_
      simp only [if_true] at hp'
      cases e2 : db ρ1 with
      | bad => simp only [e2] at hp'; exact hp'.elim
      | exc x ρ3 => simp only [e2] at hp'; exact hp'
      | rt p ρ3 => simp only [e2] at hp'; exact hp'
      | nx ρ3 => simp only [e2] at hp'; exact fun S4 σ4 H4 a4 => ⟨S4, ρ3, a4, hp'⟩
      | ct ρ3 => simp only [e2] at hp'; exact fun S4 σ4 H4 a4 => ⟨S4, ρ3, a4, hp'⟩
      | bk ρ3 => simp only [e2] at hp'; exact fun S4 σ4 H4 a4 => hp' S4 σ4 H4 a4
end
end PL

set_option Elab.async false
set_option linter.all false
set_option maxRecDepth 100000
set_option maxHeartbeats 4000000
namespace PL
open PySem PySem.Spec L2
set_option autoImplicit false

/-! ### comprehensions -/
def Sl.lock : Sl → Sl
  | .ow p => .io p
  | s => s
def Sl.isOw : Sl → Bool
  | .ow _ => true
  | _ => false
/-- the owned slots are lent to the block, its own names are free -/
def lockE : List Nat → Env → Env
  | [], ρ => ρ.map Sl.lock
  | i :: is, ρ => (lockE is ρ).set i .un
def Sl.back : Sl → Sl → Sl
  | .ow _, .io q => .ow q
  | .io _, .io q => .io q
  | _, .sh p => .sh p
  | _, _ => .un
def clean : Sl → Sl
  | .sh p => .sh p
  | _ => .un
def backE (own : List Nat) (ρ ρ' : Env) : Env := (List.range ρ.length).map fun i => if own.contains i then clean (ρ.getD i .un) else Sl.back (ρ.getD i .un) (ρ'.getD i .un)
def noOw : Env → Bool
  | [] => true
  | s :: r => !s.isOw && noOw r
def wipeE : List Nat → Env → Env
  | [], ρ => ρ
  | i :: is, ρ => (wipeE is ρ).set i .un
def lcLoop (own : List Nat) (tgt : DenG) (test : DenB) (elt : Den) : List PV → Env → Option (List PV × Env)
  | [], ρ => some ([], ρ)
  | x :: xs, ρ => match tgt x ρ with
    | none => none
    | some ρ1 => match test ρ1 with
      | .ok true ρ2 => match elt ρ2 with
        | .ok y ρ3 => if noOw ρ3 = true then (match lcLoop own tgt test elt xs (wipeE own ρ3) with
            | some (ys, ρ4) => some (y :: ys, ρ4)
            | none => none) else none
        | _ => none
      | .ok false ρ2 => if noOw ρ2 = true then lcLoop own tgt test elt xs (wipeE own ρ2) else none
      | _ => none
def dLc (own : List Nat) (di : DenL) (tgt : DenG) (test : DenB) (elt : Den) : Den := fun ρ => (di ρ).bind fun xs ρ1 => match lcLoop own tgt test elt xs (lockE own ρ1) with
  | some (ys, ρ2) => if ys.length ≤ 1000000 then .ok (.lst ys) (backE own ρ1 ρ2) else .bad
  | none => .bad
theorem noOw_get : ∀ {ρ : Env} {i : Nat} {p : PV}, noOw ρ = true → ρ[i]? ≠ some (.ow p)
  | [], i, p, _ => by simp
  | s :: r, 0, p, h => by
    intro e
    simp at e
    subst e
    simp [noOw, Sl.isOw] at h
  | s :: r, i + 1, p, h => by
    intro e
    simp [noOw] at h
    exact noOw_get (i := i) h.2 (by simpa using e)
section
variable {K : PySem.W.Frag} {mg : Str → Option Value} {W : WX} {H₀ S₀ : Hp} {M : Addr → Prop} {S H : Hp} {σ : St} {ρ : Env}
/-- slots lose what they held -/
theorem Abs.forget {σ' : St} {ρ' : Env} (a : Abs K H₀ S₀ M S σ H ρ) (hl : ρ'.length = σ'.length) (h : ∀ (i : Nat) s, ρ'[i]? = some s → s ≠ .un → ρ[i]? = some s ∧ σ'[i]? = σ[i]?) : Abs K H₀ S₀ M S σ' H ρ' where
  len := hl
  sub := a.sub
  base := a.base
  grow := a.grow
  keep := a.keep
  there := a.there
  sh := fun i p e => by
    obtain ⟨h1, h2⟩ := h i _ e (by intro z; cases z)
    rw [h2]
    exact a.sh i p h1
  own := fun i s p e es => by
    obtain ⟨h1, h2⟩ := h i _ e (by intro z; subst z; cases es)
    rw [h2]
    exact a.own i s p h1 es
  dis := fun i j s t p q b e es e' es' z z' => by
    obtain ⟨h1, h2⟩ := h i _ e (by intro z; subst z; cases es)
    obtain ⟨k1, k2⟩ := h j _ e' (by intro z; subst z; cases es')
    rw [h2] at z
    rw [k2] at z'
    exact a.dis i j s t p q b h1 es k1 es' z z'
theorem getElem?_wipe {i : Nat} : ∀ {own : List Nat} {σ : St}, i ∉ own → (wipe σ own)[i]? = σ[i]?
  | [], σ, _ => rfl
  | j :: js, σ, h => by
    have hj : j ≠ i := fun e => h (by simp [e])
    have hjs : i ∉ js := fun e => h (by simp [e])
    show ((wipe σ js).set j none)[i]? = σ[i]?
    rw [List.getElem?_set_ne hj]
    exact getElem?_wipe hjs
theorem wipeE_length : ∀ (own : List Nat) (ρ : Env), (wipeE own ρ).length = ρ.length
  | [], _ => rfl
  | i :: is, ρ => by
    show ((wipeE is ρ).set i .un).length = _
    rw [List.length_set, wipeE_length is ρ]
theorem wipeE_get : ∀ {own : List Nat} {ρ : Env} {i : Nat} {s : Sl}, (wipeE own ρ)[i]? = some s → s ≠ .un → i ∉ own ∧ ρ[i]? = some s
  | [], ρ, i, s, e, _ => ⟨by simp, e⟩
  | j :: js, ρ, i, s, e, n => by
    have e : ((wipeE js ρ).set j .un)[i]? = some s := e
    by_cases hj : j = i
    · subst hj
      have hi : j < (wipeE js ρ).length := by
        rcases Nat.lt_or_ge j (wipeE js ρ).length with h | h
        · exact h
        · rw [List.getElem?_eq_none (by rw [List.length_set]; exact h)] at e; cases e
      rw [List.getElem?_set_self hi] at e
      cases e
      exact absurd rfl n
    · rw [List.getElem?_set_ne hj] at e
      obtain ⟨h1, h2⟩ := wipeE_get e n
      exact ⟨by simp [h1, Ne.symm hj], h2⟩
theorem lockE_length : ∀ (own : List Nat) (ρ : Env), (lockE own ρ).length = ρ.length
  | [], ρ => by simp [lockE]
  | i :: is, ρ => by
    show ((lockE is ρ).set i .un).length = _
    rw [List.length_set, lockE_length is ρ]
theorem lockE_get : ∀ {own : List Nat} {ρ : Env} {i : Nat} {s : Sl}, (lockE own ρ)[i]? = some s → s ≠ .un → i ∉ own ∧ ∃ s', ρ[i]? = some s' ∧ s = s'.lock
  | [], ρ, i, s, e, _ => by
    have e : (ρ.map Sl.lock)[i]? = some s := e
    rw [List.getElem?_map] at e
    cases e1 : ρ[i]? with
    | none => rw [e1] at e; cases e
    | some s' =>
      rw [e1] at e
      cases e
      exact ⟨by simp, s', rfl, rfl⟩
  | j :: js, ρ, i, s, e, n => by
    have e : ((lockE js ρ).set j .un)[i]? = some s := e
    by_cases hj : j = i
    · subst hj
      have hi : j < (lockE js ρ).length := by
        rcases Nat.lt_or_ge j (lockE js ρ).length with h | h
        · exact h
        · rw [List.getElem?_eq_none (by rw [List.length_set]; exact h)] at e; cases e
      rw [List.getElem?_set_self hi] at e
      cases e
      exact absurd rfl n
    · rw [List.getElem?_set_ne hj] at e
      obtain ⟨h1, h2⟩ := lockE_get e n
      exact ⟨by simp [h1, Ne.symm hj], h2⟩
def Lent (σ : St) (ρ : Env) (a : Addr) : Prop := ∃ (i : Nat) (s : Sl) (p : PV), ρ[i]? = some s ∧ s.own? = some p ∧ σ[i]? = some (some (.ref a))
theorem wipe_len (σ : St) (own : List Nat) : (wipe σ own).length = σ.length := wipe_length σ own
/-- into the block: what stands now is the base, the owned slots are lent -/
theorem Abs.enter (own : List Nat) (a : Abs K H₀ S₀ M S σ H ρ) : Abs K H S (Lent σ ρ) S (wipe σ own) H (lockE own ρ) where
  len := by rw [lockE_length, wipe_len]; exact a.len
  sub := a.sub
  base := Same.refl _
  grow := fun _ _ e => .inl e
  keep := fun _ _ e _ => e
  there := fun b o e => ⟨o, e⟩
  sh := fun i p e => by
    obtain ⟨h1, s', h2, h3⟩ := lockE_get e (by intro z; cases z)
    rw [getElem?_wipe h1]
    cases s' with
    | sh q => cases h3; exact a.sh i _ h2
    | _ => cases h3
  own := fun i s p e es => by
    obtain ⟨h1, s', h2, h3⟩ := lockE_get e (by intro z; subst z; cases es)
    rw [getElem?_wipe h1]
    have key : ∀ q, s'.own? = some q → s = .io q ∧ p = q := fun q hq => by
      cases s' with
      | ow r => cases hq; subst h3; cases es; exact ⟨rfl, rfl⟩
      | io r => cases hq; subst h3; cases es; exact ⟨rfl, rfl⟩
      | un => cases hq
      | sh r => cases hq
    have hs' : s'.own? = some p := by
      cases s' with
      | ow r => subst h3; cases es; rfl
      | io r => subst h3; cases es; rfl
      | un => subst h3; cases es
      | sh r => subst h3; cases es
    obtain ⟨rfl, _⟩ := key p hs'
    obtain ⟨b, o, k1, k2, k3, k4, k5, k6⟩ := a.own i s' p h2 hs'
    exact ⟨b, o, k1, (fun z => by cases z), fun _ => ⟨i, s', p, h2, hs', k1⟩, k4, k5, k6⟩
  dis := fun i j s t p q b e es e' es' z z' => by
    obtain ⟨h1, s1, h2, h3⟩ := lockE_get e (by intro z; subst z; cases es)
    obtain ⟨k1, s2, k2, k3⟩ := lockE_get e' (by intro z; subst z; cases es')
    rw [getElem?_wipe h1] at z
    rw [getElem?_wipe k1] at z'
    have key : ∀ {s' s : Sl} {p : PV}, s = s'.lock → s.own? = some p → s'.own? = some p := fun {s' s p} h3 es => by
      cases s' with
      | ow r => subst h3; cases es; rfl
      | io r => subst h3; cases es; rfl
      | un => subst h3; cases es
      | sh r => subst h3; cases es
    exact a.dis i j s1 s2 p q b h2 (key h3 es) k2 (key k3 es') z z'
/-- a turn's base is what stands at its start -/
theorem Abs.here (a : Abs K H₀ S₀ M S σ H ρ) (n : noOw ρ = true) : Abs K H S M S σ H ρ where
  len := a.len
  sub := a.sub
  base := Same.refl _
  grow := fun _ _ e => .inl e
  keep := fun _ _ e _ => e
  there := fun b o e => ⟨o, e⟩
  sh := a.sh
  own := fun i s p e es => by
    obtain ⟨b, o, k1, k2, k3, k4, k5, k6⟩ := a.own i s p e es
    refine ⟨b, o, k1, fun z => ?_, k3, k4, k5, k6⟩
    subst z
    exact absurd e (noOw_get n)
  dis := a.dis
theorem Abs.along {S' H' : Hp} {σ' : St} {ρ' : Env} (a : Abs K H₀ S₀ M S σ H ρ) (b : Abs K H S M S' σ' H' ρ') (n : noOw ρ' = true) : Abs K H₀ S₀ M S' σ' H' ρ' where
  len := b.len
  sub := b.sub
  base := a.base.trans b.base
  grow := fun c o e => by
    rcases b.grow c o e with h | h
    · exact a.grow c o h
    · exact .inr (a.none0 h)
  keep := fun c o e m => b.keep c o (a.keep c o e m) m
  there := fun c o e => by
    obtain ⟨o1, h1⟩ := a.there c o e
    exact b.there c o1 h1
  sh := b.sh
  own := fun i s p e es => by
    obtain ⟨c, o, k1, k2, k3, k4, k5, k6⟩ := b.own i s p e es
    refine ⟨c, o, k1, fun z => ?_, k3, k4, k5, k6⟩
    subst z
    exact absurd e (noOw_get n)
  dis := b.dis
theorem backE_get {own : List Nat} {ρ ρ' : Env} {i : Nat} {s : Sl} (e : (backE own ρ ρ')[i]? = some s) (n : s ≠ .un) :
    (i ∈ own ∧ ∃ p, s = .sh p ∧ ρ[i]? = some (.sh p)) ∨ (i ∉ own ∧ ∃ t t', ρ[i]? = some t ∧ ρ'[i]? = some t' ∧ s = Sl.back t t') := by
  unfold backE at e
  rw [List.getElem?_map] at e
  cases e1 : (List.range ρ.length)[i]? with
  | none => rw [e1] at e; cases e
  | some j =>
    rw [e1] at e
    have hi : i < ρ.length := by
      rcases Nat.lt_or_ge i ρ.length with h | h
      · exact h
      · rw [List.getElem?_eq_none (by simpa using h)] at e1; cases e1
    have hj : i = j := by
      rw [List.getElem?_range hi] at e1
      cases e1; rfl
    subst hj
    have er : ρ.getD i .un = ρ[i] := by simp [List.getD, hi]
    have ei : ρ[i]? = some ρ[i] := List.getElem?_eq_getElem hi
    by_cases hc : own.contains i = true
    · simp only [Option.map_some, hc, if_true, er, Option.some.injEq] at e
      refine .inl ⟨by simpa using hc, ?_⟩
      rw [ei]
      cases ex : ρ[i] with
      | sh p => rw [ex] at e; exact ⟨p, e.symm, rfl⟩
      | _ => rw [ex] at e; exact absurd e.symm n
    · simp only [Option.map_some, hc, Bool.false_eq_true, if_false, er, Option.some.injEq] at e
      refine .inr ⟨by simpa using hc, ?_⟩
      cases e2 : ρ'[i]? with
      | none =>
        have : ρ'.getD i .un = .un := by simp [List.getD, e2]
        rw [this] at e
        cases ex : ρ[i] <;> rw [ex] at e <;> exact absurd e.symm n
      | some t' =>
        have : ρ'.getD i .un = t' := by simp [List.getD, e2]
        rw [this] at e
        exact ⟨_, t', ei, rfl, e.symm⟩
/-- out of the block -/
theorem Abs.exit {own : List Nat} {S1 H1 : Hp} {ρ1 : Env} (a : Abs K H₀ S₀ M S σ H ρ) (b : Abs K H S (Lent σ ρ) S1 (wipe σ own) H1 ρ1) : Abs K H₀ S₀ M S1 σ H1 (backE own ρ ρ1) where
  len := by
    unfold backE
    rw [List.length_map, List.length_range]
    exact a.len
  sub := b.sub
  base := a.base.trans b.base
  grow := fun c o e => by
    rcases b.grow c o e with h | h
    · exact a.grow c o h
    · exact .inr (a.none0 h)
  keep := fun c o e m => by
    refine b.keep c o (a.keep c o e m) fun ⟨i, s, p, h1, h2, h3⟩ => ?_
    obtain ⟨c', o', k1, k2, k3, _⟩ := a.own i s p h1 h2
    rw [h3] at k1
    cases k1
    cases s with
    | ow q => cases h2; rw [k2 rfl] at e; cases e
    | io q => cases h2; exact m (k3 rfl)
    | un => cases h2
    | sh q => cases h2
  there := fun c o e => by
    obtain ⟨o1, h1⟩ := a.there c o e
    exact b.there c o1 h1
  sh := fun i p e => by
    rcases backE_get e (by intro z; cases z) with ⟨_, q, hq, h2⟩ | ⟨h1, t, t', h2, h3, h4⟩
    · cases hq
      obtain ⟨v, k1, k2⟩ := a.sh i _ h2
      exact ⟨v, k1, k2.up b.base⟩
    · have ht : t' = .sh p := by
        cases t <;> cases t' <;> simp [Sl.back] at h4 <;> first | (subst h4; rfl) | skip
      subst ht
      obtain ⟨v, k1, k2⟩ := b.sh i p h3
      rw [getElem?_wipe h1] at k1
      exact ⟨v, k1, k2⟩
  own := fun i s p e es => by
    rcases backE_get e (by intro z; subst z; cases es) with ⟨_, q, hq, h2⟩ | ⟨h1, t, t', h2, h3, h4⟩
    · subst hq; cases es
    · have ht : t' = .io p ∧ ((∃ q, t = .ow q ∧ s = .ow p) ∨ ∃ q, t = .io q ∧ s = .io p) := by
        cases t <;> cases t' <;> simp [Sl.back] at h4 <;> subst h4 <;> first | (cases es; done) | (cases es; exact ⟨rfl, .inl ⟨_, rfl, rfl⟩⟩) | (cases es; exact ⟨rfl, .inr ⟨_, rfl, rfl⟩⟩)
      obtain ⟨rfl, ht⟩ := ht
      obtain ⟨c, o, k1, k2, k3, k4, k5, k6⟩ := b.own i _ p h3 rfl
      rw [getElem?_wipe h1] at k1
      rcases ht with ⟨q, rfl, rfl⟩ | ⟨q, rfl, rfl⟩
      · obtain ⟨c', o', z1, z2, z3, _⟩ := a.own i _ q h2 rfl
        rw [k1] at z1
        cases z1
        exact ⟨c, o, k1, fun _ => z2 rfl, (fun z => by cases z), k4, k5, k6⟩
      · obtain ⟨c', o', z1, z2, z3, _⟩ := a.own i _ q h2 rfl
        rw [k1] at z1
        cases z1
        exact ⟨c, o, k1, (fun z => by cases z), fun _ => z3 rfl, k4, k5, k6⟩
  dis := fun i j s t p q c e es e' es' z z' => by
    have key : ∀ {i : Nat} {s : Sl} {p : PV}, (backE own ρ ρ1)[i]? = some s → s.own? = some p → i ∉ own ∧ ρ1[i]? = some (.io p) := fun {i s p} e es => by
      rcases backE_get e (by intro z; subst z; cases es) with ⟨_, q, hq, h2⟩ | ⟨h1, t, t', h2, h3, h4⟩
      · subst hq; cases es
      · have ht : t' = .io p := by
          cases t <;> cases t' <;> simp [Sl.back] at h4 <;> subst h4 <;> first | (cases es; done) | (cases es; rfl)
        subst ht
        exact ⟨h1, h3⟩
    obtain ⟨h1, h2⟩ := key e es
    obtain ⟨k1, k2⟩ := key e' es'
    exact b.dis i j _ _ _ _ c h2 rfl k2 rfl (by rw [getElem?_wipe h1]; exact z) (by rw [getElem?_wipe k1]; exact z')

theorem noOw_map : ∀ l : Env, noOw (l.map Sl.lock) = true
  | [] => rfl
  | s :: r => by cases s <;> simp [noOw, Sl.lock, Sl.isOw, noOw_map r]
theorem noOw_set : ∀ (l : Env) (i : Nat), noOw l = true → noOw (l.set i .un) = true
  | [], _, h => h
  | s :: r, 0, h => by
    simp [noOw] at h ⊢
    exact ⟨rfl, h.2⟩
  | s :: r, i + 1, h => by
    simp [noOw] at h ⊢
    exact ⟨h.1, noOw_set r i h.2⟩
theorem noOw_lockE : ∀ (own : List Nat) (ρ : Env), noOw (lockE own ρ) = true
  | [], ρ => noOw_map ρ
  | i :: is, ρ => noOw_set _ _ (noOw_lockE is ρ)
theorem noOw_wipeE : ∀ (own : List Nat) (ρ : Env), noOw ρ = true → noOw (wipeE own ρ) = true
  | [], _, h => h
  | i :: is, ρ, h => noOw_set _ _ (noOw_wipeE is ρ h)
theorem wipe_set : ∀ {own : List Nat} {i : Nat} {x : Option V} {σ : St}, i ∈ own → wipe (σ.set i x) own = wipe σ own
  | j :: js, i, x, σ, h => by
    show (wipe (σ.set i x) js).set j none = (wipe σ js).set j none
    by_cases hj : i ∈ js
    · rw [wipe_set hj]
    · have e : i = j := by
        rcases List.mem_cons.mp h with e | e
        · exact e
        · exact absurd e hj
      subst e
      apply List.ext_getElem?
      intro k
      by_cases hk : k = i
      · subst hk
        by_cases hl : k < σ.length
        · rw [List.getElem?_set_self (by rw [wipe_len, List.length_set]; exact hl), List.getElem?_set_self (by rw [wipe_len]; exact hl)]
        · rw [List.getElem?_eq_none (by rw [List.length_set, wipe_len, List.length_set]; omega), List.getElem?_eq_none (by rw [List.length_set, wipe_len]; omega)]
      · rw [List.getElem?_set_ne (Ne.symm hk), List.getElem?_set_ne (Ne.symm hk)]
        by_cases hkj : k ∈ js
        · have w0 : ∀ {l : List Nat} {τ : St}, k ∈ l → (wipe τ l)[k]? = (if k < τ.length then some none else none) := fun {l} => by
            induction l with
            | nil => intro τ h; cases h
            | cons a r ih =>
              intro τ h
              show ((wipe τ r).set a none)[k]? = _
              by_cases ha : a = k
              · subst ha
                by_cases hl : a < τ.length
                · rw [List.getElem?_set_self (by rw [wipe_len]; exact hl), if_pos hl]
                · rw [List.getElem?_eq_none (by rw [List.length_set, wipe_len]; omega), if_neg hl]
              · rw [List.getElem?_set_ne ha]
                rcases List.mem_cons.mp h with e | e
                · exact absurd e.symm ha
                · exact ih e
          rw [w0 hkj, w0 hkj, List.length_set]
        · rw [getElem?_wipe hkj, getElem?_wipe hkj, List.getElem?_set_ne (Ne.symm hk)]
theorem wipe_wipe : ∀ (own : List Nat) (σ : St), wipe (wipe σ own) own = wipe σ own := fun own σ => by
  have key : ∀ (l : List Nat) (τ : St), (∀ i ∈ l, i ∈ own) → wipe (wipe τ l) own = wipe τ own := fun l => by
    induction l with
    | nil => intro τ _; rfl
    | cons a r ih =>
      intro τ h
      show wipe ((wipe τ r).set a none) own = _
      rw [wipe_set (h a List.mem_cons_self)]
      exact ih τ fun i hi => h i (List.mem_cons_of_mem _ hi)
  exact key own σ fun _ h => h
/-- a target stores to these slots alone -/
def TgW (own : List Nat) (g : TG) : Prop := ∀ (v : V) (τ : St) (H : Hp) (Q : St → Hp → Prop), g v τ H Q → g v τ H fun σ2 H2 => wipe σ2 own = wipe τ own ∧ Q σ2 H2
def TgsW (own : List Nat) (g : TGs) : Prop := ∀ (v : List V) (τ : St) (H : Hp) (Q : St → Hp → Prop), g v τ H Q → g v τ H fun σ2 H2 => wipe σ2 own = wipe τ own ∧ Q σ2 H2
/-- a target's wish may be weakened -/
theorem tw_name {own : List Nat} {i : Nat} (h : i ∈ own) : TgW own (L2.gName i) := fun v τ H Q q => ⟨wipe_set h, q⟩
theorem tws_nil {own : List Nat} : TgsW own L2.gNil := fun v τ H Q q => ⟨q.1, rfl, q.2⟩
theorem tws_name {own : List Nat} {i : Nat} {gs : TGs} (h : i ∈ own) (hs : TgsW own gs) : TgsW own (L2.gCons (L2.gName i) gs) := fun v τ H Q q => by
  obtain ⟨x, r, e, q⟩ := q
  refine ⟨x, r, e, ?_⟩
  have q : gs r (τ.set i (some x)) H Q := q
  have z := hs r _ H Q q
  rw [wipe_set h] at z
  exact z
theorem tw_tup {own : List Nat} {n : Nat} {gs : TGs} (h : TgsW own gs) : TgW own (L2.gTup K n gs) := fun v τ H Q q => by
  obtain ⟨a, xs, e, h1, h2, q⟩ := q
  exact ⟨a, xs, e, h1, h2, h _ _ _ _ q⟩
def GMono (g : TG) : Prop := ∀ (v : V) (τ : St) (H : Hp) (Q Q' : St → Hp → Prop), (∀ σ H, Q σ H → Q' σ H) → g v τ H Q → g v τ H Q'
def GsMono (g : TGs) : Prop := ∀ (v : List V) (τ : St) (H : Hp) (Q Q' : St → Hp → Prop), (∀ σ H, Q σ H → Q' σ H) → g v τ H Q → g v τ H Q'
theorem gm_name {i : Nat} : GMono (L2.gName i) := fun v τ H Q Q' h q => h _ _ q
theorem gms_nil : GsMono L2.gNil := fun v τ H Q Q' h q => ⟨q.1, h _ _ q.2⟩
theorem gms_cons {g : TG} {gs : TGs} (h1 : GMono g) (h2 : GsMono gs) : GsMono (L2.gCons g gs) := fun v τ H Q Q' h q => by
  obtain ⟨x, r, e, q⟩ := q
  exact ⟨x, r, e, h1 _ _ _ _ _ (fun σ H z => h2 _ _ _ _ _ h z) q⟩
theorem gm_tup {n : Nat} {gs : TGs} (h : GsMono gs) : GMono (L2.gTup K n gs) := fun v τ H Q Q' h' q => by
  obtain ⟨a, xs, e, h1, h2, q⟩ := q
  exact ⟨a, xs, e, h1, h2, h _ _ _ _ _ h' q⟩
/-- an object that no slot owns changes -/
theorem Abs.other {D : Addr} {o : HO} (a : Abs K H₀ S₀ M S σ H ρ) (h0 : H₀ D = none) (hS : S D = none) (hn : ∀ (i : Nat) s p, ρ[i]? = some s → s.own? = some p → σ[i]? ≠ some (some (.ref D))) : Abs K H₀ S₀ M S σ (upd H D o) ρ where
  len := a.len
  sub := fun b x e => by
    rw [upd_ne (fun z => by rw [z, hS] at e; cases e)]
    exact a.sub _ _ e
  base := a.base
  grow := a.grow
  keep := fun b x e m => by
    rw [upd_ne (fun z => by rw [z, h0] at e; cases e)]
    exact a.keep _ _ e m
  there := fun b x e => by
    rw [upd_ne (fun z => by rw [z, h0] at e; cases e)]
    exact a.there _ _ e
  sh := a.sh
  own := fun i s p e es => by
    obtain ⟨c, o', k1, k2, k3, k4, k5, k6⟩ := a.own i s p e es
    refine ⟨c, o', k1, k2, k3, k4, ?_, k6⟩
    rw [upd_ne, k5]
    intro z
    subst z
    exact hn i s p e es k1
  dis := a.dis
/-- a comprehension: in its block nothing is raised -/
theorem fo_lc {wi : TI} {di : DenL} {g : TG} {dg : DenG} {tt : TT} {dt : DenB} {te : TE} {de : Den} {own : List Nat} (hi : IOk K mg W wi di) (hg : GOk K g dg) (hgw : TgW own g) (hgm : GMono g) (ht : TOk K mg (fun _ _ _ _ => False) tt dt) (he : EOk K mg (fun _ _ _ _ => False) te de) :
    FOk K mg W (tLc wi g tt te own) (dLc own di dg dt de) := fun H₀ S₀ M S σ H ρ Q ab hp =>
  hi.bind (Rl' := rF K) ab hp fun xs ρ1 J S1 H1 _ a1 _ rj hp => by
    intro D hD
    cases eL : lcLoop own dg dt de xs (lockE own ρ1) with
    | none => simp only [eL] at hp; exact hp.elim
    | some yr =>
      obtain ⟨ys, ρ2⟩ := yr
      simp only [eL] at hp
      by_cases hlen : ys.length ≤ 1000000
      · rw [if_pos hlen] at hp
        have hsz : (1000000 : Nat) < sizeLine := by rw [sizeLine_eq]; decide
        have nL : ¬ Lent σ ρ1 D := fun ⟨i, s, p, h1, h2, h3⟩ => by
          obtain ⟨c, o, k1, _, _, _, k5, _⟩ := a1.own i s p h1 h2
          rw [h3] at k1
          cases k1
          rw [hD] at k5; cases k5
        have nOwn : ∀ {S' : Hp} {σ' : St} {H' : Hp} {ρ' : Env}, Abs K H1 S1 (Lent σ ρ1) S' σ' H' ρ' → ∀ (i : Nat) s p, ρ'[i]? = some s → s.own? = some p → noOw ρ' = true → σ'[i]? ≠ some (some (.ref D)) := fun {S' σ' H' ρ'} a i s p e es no z => by
          obtain ⟨c, o, k1, k2, k3, _⟩ := a.own i s p e es
          rw [z] at k1
          cases k1
          cases s with
          | io q => cases es; exact nL (k3 rfl)
          | ow q => exact noOw_get no e
          | un => cases es
          | sh q => cases es
        refine ⟨fun i m H => m = xs.length - i ∧ i ≤ xs.length ∧ ∃ S ρ acc ps zs, Abs K H1 S1 (Lent σ ρ1) S (wipe σ own) H ρ ∧ noOw ρ = true ∧ H D = some (.lst acc) ∧ S D = none ∧ RepL K S ps acc ∧ lcLoop own dg dt de (xs.drop i) ρ = some (zs, ρ2) ∧ ys = ps ++ zs,
          ⟨xs.length, by simp, Nat.zero_le _, S1, lockE own ρ1, [], [], ys, (a1.enter own).step (Step.hid a1.sub hD), noOw_lockE _ _, upd_same, Same.free a1.sub hD, .nil, by rw [List.drop_zero]; exact eL, rfl⟩, ?_⟩
        rintro i m H' ⟨rfl, hle, S', ρ', acc, ps, zs, a', no', hD', sD', rp, eL', eys⟩
        obtain ⟨js, jg⟩ := rj i S' H' a'.base a'.sub
        by_cases hlt : i < xs.length
        · have ex : xs[i]? = some xs[i] := List.getElem?_eq_getElem hlt
          obtain ⟨j1, j2⟩ := jg _ ex
          rw [List.drop_eq_getElem_cons hlt] at eL'
          unfold lcLoop at eL'
          cases e1 : dg xs[i] ρ' with
          | none => simp only [e1] at eL'; cases eL'
          | some ρa =>
            simp only [e1] at eL'
            refine .inr ⟨j1, fun H => i + 1 ≤ xs.length ∧ ∃ S ρ acc ps zs, Abs K H1 S1 (Lent σ ρ1) S (wipe σ own) H ρ ∧ noOw ρ = true ∧ H D = some (.lst acc) ∧ S D = none ∧ RepL K S ps acc ∧ lcLoop own dg dt de (xs.drop (i + 1)) ρ = some (zs, ρ2) ∧ ys = ps ++ zs,
              fun H2 hN => ⟨xs.length - (i + 1), by omega, rfl, hN.1, hN.2⟩, fun x H2 y => ?_⟩
            obtain ⟨S2, st, rx⟩ := j2 x H2 y
            have aS := a'.step st
            have aT : Abs K H2 S2 (Lent σ ρ1) S2 (wipe σ own) H2 ρ' := aS.here no'
            have D2 : H2 D = some (.lst acc) := st.h _ _ hD'
            have sD2 : S2 D = none := by
              cases q : S2 D with
              | none => rfl
              | some o =>
                rcases st.new D o q with z | z
                · rw [sD'] at z; cases z
                · rw [hD'] at z; cases z
            have hg1 := hg H2 S2 (Lent σ ρ1) S2 (wipe σ own) H2 ρ' ρa xs[i] x (fun σ2 H2' => H2' = H2 ∧ Abs K H2 S2 (Lent σ ρ1) S2 σ2 H2 ρa) aT rx e1 fun σ2 a2 => ⟨rfl, a2⟩
            have hg2 := hgw x (wipe σ own) H2 _ hg1
            have body : ∀ σ2 H2', (wipe σ2 own = wipe (wipe σ own) own ∧ H2' = H2 ∧ Abs K H2 S2 (Lent σ ρ1) S2 σ2 H2 ρa) → (wipe σ2 own = wipe σ own ∧ tt σ2 H2' fun b H3 =>
                if b = true then te σ2 H3 fun y H4 => ∃ acc, H4 D = some (.lst acc) ∧ acc.length < sizeLine ∧ (fun H => i + 1 ≤ xs.length ∧ ∃ S ρ acc ps zs, Abs K H1 S1 (Lent σ ρ1) S (wipe σ own) H ρ ∧ noOw ρ = true ∧ H D = some (.lst acc) ∧ S D = none ∧ RepL K S ps acc ∧ lcLoop own dg dt de (xs.drop (i + 1)) ρ = some (zs, ρ2) ∧ ys = ps ++ zs) (upd H4 D (.lst (acc ++ [y])))
                else (fun H => i + 1 ≤ xs.length ∧ ∃ S ρ acc ps zs, Abs K H1 S1 (Lent σ ρ1) S (wipe σ own) H ρ ∧ noOw ρ = true ∧ H D = some (.lst acc) ∧ S D = none ∧ RepL K S ps acc ∧ lcLoop own dg dt de (xs.drop (i + 1)) ρ = some (zs, ρ2) ∧ ys = ps ++ zs) H3) := by
              rintro σ2 H2' ⟨hw, rfl, a2⟩
              rw [wipe_wipe] at hw
              refine ⟨hw, ?_⟩
              -- back to the wiped slots
              have bk : ∀ {S3 H3 : Hp} {ρ3 : Env}, Abs K H2' S2 (Lent σ ρ1) S3 σ2 H3 ρ3 → noOw ρ3 = true → Abs K H1 S1 (Lent σ ρ1) S3 (wipe σ own) H3 (wipeE own ρ3) := fun {S3 H3 ρ3} a3 no3 => by
                refine (aS.along a3 no3).forget ?_ fun j s e n => ?_
                · rw [wipeE_length, a3.len, ← wipe_len σ2 own, hw]
                · obtain ⟨h1, h2⟩ := wipeE_get e n
                  refine ⟨h2, ?_⟩
                  rw [← hw, getElem?_wipe h1]
              have kD : ∀ {S3 H3 : Hp} {ρ3 : Env}, Abs K H2' S2 (Lent σ ρ1) S3 σ2 H3 ρ3 → H3 D = some (.lst acc) ∧ S3 D = none := fun {S3 H3 ρ3} a3 => by
                refine ⟨a3.keep D _ D2 nL, ?_⟩
                cases q : S3 D with
                | none => rfl
                | some o =>
                  rcases a3.grow D o q with z | z
                  · rw [sD2] at z; cases z
                  · rw [D2] at z; cases z
              refine ht H2' S2 (Lent σ ρ1) S2 σ2 H2' ρa _ a2 ?_
              cases e2 : dt ρa with
              | bad => simp only [e2] at eL'; cases eL'
              | exc x ρb => simp only [e2] at eL'; cases eL'
              | ok b ρb =>
                intro b' S3 H3 a3 rb
                cases rb
                simp only [e2] at eL'
                cases b with
                | false =>
                  simp only [Bool.false_eq_true, if_false]
                  by_cases no3 : noOw ρb = true
                  · simp only [if_pos no3] at eL'
                    obtain ⟨d1, d2⟩ := kD a3
                    exact ⟨hlt, S3, wipeE own ρb, acc, ps, zs, bk a3 no3, noOw_wipeE _ _ no3, d1, d2, rp.up (st.s.trans a3.base), eL', eys⟩
                  · simp only [if_neg no3] at eL'; cases eL'
                | true =>
                  simp only [if_true]
                  have a3' : Abs K H2' S3 (Lent σ ρ1) S3 σ2 H3 ρb := a3.rebase
                  refine he H2' S3 (Lent σ ρ1) S3 σ2 H3 ρb _ a3' ?_
                  cases e3 : de ρb with
                  | bad => simp only [e3] at eL'; cases eL'
                  | exc x ρc => simp only [e3] at eL'; cases eL'
                  | ok y ρc =>
                    intro z S4 H4 a4' rz
                    have a4 := a3.unbase a4'
                    simp only [e3] at eL'
                    by_cases no4 : noOw ρc = true
                    · simp only [if_pos no4] at eL'
                      cases e5 : lcLoop own dg dt de (xs.drop (i + 1)) (wipeE own ρc) with
                      | none => simp only [e5] at eL'; cases eL'
                      | some yr =>
                        obtain ⟨ys', ρ4⟩ := yr
                        simp only [e5] at eL'
                        cases eL'
                        obtain ⟨d1, d2⟩ := kD a4
                        have hl : acc.length < 1000000 := by
                          have z1 := rp.length
                          have z2 := congrArg List.length eys
                          rw [List.length_append, List.length_cons] at z2
                          omega
                        refine ⟨acc, d1, by omega, hlt, S4, wipeE own ρc, acc ++ [z], ps ++ [y], ys', (bk a4 no4).other hD d2 fun j s p e es => nOwn (bk a4 no4) j s p e es (noOw_wipeE _ _ no4), noOw_wipeE _ _ no4, upd_same, d2,
                          (rp.up (st.s.trans a4.base)).append (.cons rz .nil), e5, by rw [eys, List.append_assoc]; rfl⟩
                    · simp only [if_neg no4] at eL'; cases eL'
            exact hgm x (wipe σ own) H2 _ _ body hg2
        · have ei : i = xs.length := by omega
          subst ei
          rw [List.drop_length] at eL'
          unfold lcLoop at eL'
          cases eL'
          rw [List.append_nil] at eys
          subst eys
          refine .inl ⟨js (Nat.le_refl _), hp (.ref D) S' H' (a1.exit a') ⟨D, .lst acc, rfl, a1.none0 hD, sD', hD', rp, fun j s q ej es z => ?_⟩⟩
          have a2 := a1.exit a'
          obtain ⟨c, o, k1, k2, k3, k4, k5, k6⟩ := a2.own j s q ej es
          rcases backE_get ej (by intro w; subst w; cases es) with ⟨_, q', hq, _⟩ | ⟨h1, t, t', h2, h3, h4⟩
          · subst hq; cases es
          · have ht : ∃ p, t'.own? = some p := by
              cases t <;> cases t' <;> simp [Sl.back] at h4 <;> subst h4 <;> first | (cases es; done) | exact ⟨_, rfl⟩
            obtain ⟨p, hp'⟩ := ht
            exact nOwn a' j t' p h3 hp' no' (by rw [getElem?_wipe h1]; exact z)
      · rw [if_neg hlen] at hp
        exact hp.elim
end
end PL

set_option Elab.async false
set_option linter.all false
set_option maxRecDepth 100000
set_option maxHeartbeats 4000000
namespace PL
open PySem PySem.Spec L2
set_option autoImplicit false

/-! ### defs: what they are promised to be -/
inductive FR where
  | bad | exc (x : Exn) | ok (p : PV) (q : PV)
/-- the parameters' slots at the entry; io: the first one is an object that the def may change -/
def argSl (io : Bool) (ps : List PV) : Env := match io, ps with
  | true, p :: r => .io p :: r.map .sh
  | _, ps => ps.map .sh
def ioSet (io : Bool) (ps : List PV) (q : PV) : List PV := if io = true then ps.set 0 q else ps
def spD (K : PySem.W.Frag) (mg : Str → Option Value) (io fr : Bool) (n : Nat) (F : List PV → FR) : Sp := fun vs H Q E => vs.length = n ∧ ∃ (S : Hp) (M : Addr → Prop) (ps : List PV),
  (∀ a b, M a → M b → a = b) ∧ Abs K H S M S (vs.map some) H (argSl io ps) ∧ (io = true → ps ≠ []) ∧
  match F ps with
  | .bad => False
  | .exc x => ∀ cls d S' H', Abs K H S M S' [] H' [] → ExcRep K mg S' H' x cls d → E cls d H'
  | .ok p q => ∀ v S' H', Abs K H S M S' (vs.map some) H' (argSl io (ioSet io ps q)) → RetRep fr K H S' H' [] [] p v → Q v H'
def io0 : Env → Option PV
  | .io q :: _ => some q
  | _ => none
theorem io0_get {ρ : Env} {q : PV} (h : io0 ρ = some q) : ρ[0]? = some (.io q) := by
  unfold io0 at h
  split at h
  · cases h; rfl
  · cases h
def fin0 (io : Bool) (p : PV) (ρ : Env) : FR := if io = true then (match io0 ρ with
  | some q => .ok p q
  | none => .bad) else .ok p .non
def runD (io fr : Bool) (n len : Nat) (d : DenS) (ps : List PV) : FR :=
  if ps.length = n then
    match d (argSl io ps ++ List.replicate (len - n) .un) with
    | .rt p ρ => fin0 io p ρ
    | .nx ρ => if fr = true then .bad else fin0 io .non ρ
    | .exc x _ => .exc x
    | _ => .bad
  else .bad
theorem argSl_length (io : Bool) (ps : List PV) : (argSl io ps).length = ps.length := by
  unfold argSl
  split <;> simp
theorem argSl_get {io : Bool} {ps : List PV} {i : Nat} {s : Sl} (e : (argSl io ps)[i]? = some s) : ∃ p, ps[i]? = some p ∧ ((s = .sh p ∧ (io = true → i ≠ 0)) ∨ (s = .io p ∧ io = true ∧ i = 0)) := by
  unfold argSl at e
  split at e
  · rename_i p r
    cases i with
    | zero =>
      simp at e
      exact ⟨p, rfl, .inr ⟨e.symm, rfl, rfl⟩⟩
    | succ j =>
      simp at e
      obtain ⟨q, h1, h2⟩ := e
      exact ⟨q, by simpa using h1, .inl ⟨h2.symm, fun _ => by simp⟩⟩
  · rename_i hio
    rw [List.getElem?_map] at e
    cases h : ps[i]? with
    | none => rw [h] at e; cases e
    | some p =>
      rw [h] at e
      cases e
      refine ⟨p, rfl, .inl ⟨rfl, fun z => ?_⟩⟩
      subst z
      cases ps with
      | nil => simp at h
      | cons a r => exact (hio a r rfl rfl).elim
section
variable {K : PySem.W.Frag} {mg : Str → Option Value} {W : WX} {fr : Bool} {H₀ S₀ : Hp} {M : Addr → Prop} {S H : Hp} {σ : St} {ρ : Env}
/-- nothing is known of the slots -/
theorem Abs.bare (a : Abs K H₀ S₀ M S σ H ρ) : Abs K H₀ S₀ M S [] H [] := a.forget rfl fun i s e => by simp at e
/-- what a call without a lent object did -/
theorem Abs.toStep {S' H' : Hp} {σ' : St} {ρ' : Env} {M : Addr → Prop} (a : Abs K H S M S' σ' H' ρ') (h : ∀ b, ¬ M b) : Step S H S' H' :=
  ⟨a.base, fun b o e => a.keep b o e (h b), a.sub, a.grow⟩
def dCall (F : List PV → FR) (da : DenL) : Den := fun ρ => (da ρ).bind fun ps ρ1 => match F ps with
  | .bad => .bad
  | .exc x => .exc x ρ1
  | .ok p _ => .ok p ρ1
theorem call_pre {n : Nat} {F : List PV → FR} {fr' : Bool} {vs : List V} {ps : List PV} {Q : VK} {E : XK} (a : Abs K H₀ S₀ M S σ H ρ) (r : RepL K S ps vs) (hl : ps.length = n)
    (h : match F ps with
      | .bad => False
      | .exc x => ∀ cls d S' H', Step S H S' H' → ExcRep K mg S' H' x cls d → E cls d H'
      | .ok p q => ∀ v S' H', Step S H S' H' → RetRep fr' K H S' H' [] [] p v → Q v H') : spD K mg false fr' n F vs H Q E := by
  refine ⟨by rw [← r.length, hl], S, fun _ => False, ps, fun _ _ z => z.elim, ⟨?_, a.sub, Same.refl _, fun _ _ e => .inl e, fun _ _ e _ => e, fun b o e => ⟨o, e⟩, fun i p e => ?_, fun i s p e es => ?_, fun i j s t p q c e es => ?_⟩, (fun z => by cases z), ?_⟩
  · rw [argSl_length, List.length_map, r.length]
  · obtain ⟨p', h1, h2⟩ := argSl_get e
    rcases h2 with ⟨h2, _⟩ | ⟨_, z, _⟩
    · cases h2
      obtain ⟨v, h3, h4⟩ := r.get h1
      exact ⟨v, by rw [List.getElem?_map, h3]; rfl, h4⟩
    · cases z
  · obtain ⟨p', h1, h2⟩ := argSl_get e
    rcases h2 with ⟨h2, _⟩ | ⟨_, z, _⟩
    · subst h2; cases es
    · cases z
  · obtain ⟨p', h1, h2⟩ := argSl_get e
    rcases h2 with ⟨h2, _⟩ | ⟨_, z, _⟩
    · subst h2; cases es
    · cases z
  · cases e : F ps with
    | bad => simp only [e] at h
    | exc x => simp only [e] at h; exact fun cls d S' H' a' => h cls d S' H' (a'.toStep fun _ z => z)
    | ok p q => simp only [e] at h; exact fun v S' H' a' => h v S' H' (a'.toStep fun _ z => z)
theorem eo_call {n : Nat} {F : List PV → FR} {ta : TA} {da : DenL} (ha : AOk K mg W ta da) (hn : ∀ ps, F ps ≠ .bad → ps.length = n) : EOk K mg W (tCallS (spD K mg false false n F) (WE W) ta) (dCall F da) := fun H₀ S₀ M S σ H ρ Q ab hp =>
  ha.bind (Rl' := rV K) ab hp fun ps ρ1 vs S1 H1 _ a1 _ r hp => by
    cases e : F ps with
    | bad => simp only [e] at hp; exact hp.elim
    | exc x =>
      simp only [e] at hp
      refine call_pre a1 r (hn ps (by rw [e]; intro z; cases z)) ?_
      simp only [e]
      exact fun cls d S' H' st re => hp cls d S' H' (a1.step st) re
    | ok p q =>
      simp only [e] at hp
      refine call_pre a1 r (hn ps (by rw [e]; intro z; cases z)) ?_
      simp only [e]
      exact fun v S' H' st rv => hp v S' H' (a1.step st) rv
theorem fresh_call {S' H' : Hp} {p : PV} {v : V} (a : Abs K H₀ S₀ M S σ H ρ) (f : Fr K H S' H' [] [] p v) : Fr K H₀ S' H' σ ρ p v := by
  obtain ⟨c, o, e, h1, h2, h3, h4, _⟩ := f
  refine ⟨c, o, e, a.none0 h1, h2, h3, h4, fun j s q ej es z => ?_⟩
  obtain ⟨c', o', k1, _, _, _, k5, _⟩ := a.own j s q ej es
  rw [z] at k1
  cases k1
  rw [h1] at k5; cases k5
theorem fo_call {n : Nat} {F : List PV → FR} {ta : TA} {da : DenL} (ha : AOk K mg W ta da) (hn : ∀ ps, F ps ≠ .bad → ps.length = n) : FOk K mg W (tCallS (spD K mg false true n F) (WE W) ta) (dCall F da) := fun H₀ S₀ M S σ H ρ Q ab hp =>
  ha.bind (Rl' := rF K) ab hp fun ps ρ1 vs S1 H1 _ a1 _ r hp => by
    cases e : F ps with
    | bad => simp only [e] at hp; exact hp.elim
    | exc x =>
      simp only [e] at hp
      refine call_pre a1 r (hn ps (by rw [e]; intro z; cases z)) ?_
      simp only [e]
      exact fun cls d S' H' st re => hp cls d S' H' (a1.step st) re
    | ok p q =>
      simp only [e] at hp
      refine call_pre a1 r (hn ps (by rw [e]; intro z; cases z)) ?_
      simp only [e]
      exact fun v S' H' st rv => hp v S' H' (a1.step st) (fresh_call a1 rv)

/-! ### a call that lends the first argument, an owned object in a slot -/
def dCallIo (F : List PV → FR) (i : Nat) (da : DenL) : Den := fun ρ => match ownAt ρ i with
  | none => .bad
  | some _ => (da ρ).bind fun ps ρ1 => match ownAt ρ1 i with
    | none => .bad
    | some (s, p) => match F (p :: ps) with
      | .bad => .bad
      | .exc x => .exc x (ρ1.set i .un)
      | .ok z q => .ok z (ρ1.set i (s.with q))
/-- behind a call that was lent the object at b -/
theorem Abs.lentBack {i : Nat} {s : Sl} {p q : PV} {b : Addr} {S' H' : Hp} {o' : HO} (a : Abs K H₀ S₀ M S σ H ρ) (e : ρ[i]? = some s) (es : s.own? = some p) (hb : σ[i]? = some (some (.ref b)))
    (st : Same S S' ∧ Same S' H' ∧ (∀ c o, S' c = some o → S c = some o ∨ H c = none) ∧ (∀ c o, H c = some o → c ≠ b → H' c = some o) ∧ ∀ c o, H c = some o → ∃ o', H' c = some o') (hS : S' b = none) (hH : H' b = some o') (w : OwnO K S' q o') :
    Abs K H₀ S₀ M S' σ H' (ρ.set i (s.with q)) := by
  obtain ⟨s1, s2, s3, s4, s5⟩ := st
  obtain ⟨b', ob, h1, h2, h3, h4, h5, h6⟩ := a.own i s p e es
  rw [hb] at h1
  cases h1
  have hi : i < ρ.length := (List.getElem?_eq_some_iff.mp e).1
  have hw : (s.with q).own? = some q := by
    cases s with
    | ow r => rfl
    | io r => rfl
    | un => cases es
    | sh r => cases es
  have nb : ∀ c o, H₀ c = some o → ¬ M c → c ≠ b := fun c o e0 m z => by
    subst z
    cases s with
    | ow r => cases es; rw [h2 rfl] at e0; cases e0
    | io r => cases es; exact m (h3 rfl)
    | un => cases es
    | sh r => cases es
  refine ⟨by rw [List.length_set]; exact a.len, s2, a.base.trans s1, fun c o z => ?_, fun c o z m => s4 c o (a.keep c o z m) (nb c o z m), fun c o z => ?_, fun j r ej => ?_, fun j t r ej et => ?_, fun j k t u r r' c ej et ek eu z z' => ?_⟩
  · rcases s3 c o z with z | z
    · exact a.grow c o z
    · exact .inr (a.none0 z)
  · obtain ⟨o1, h⟩ := a.there c o z
    exact s5 c o1 h
  · by_cases hj : j = i
    · subst hj
      rw [List.getElem?_set_self hi] at ej
      have z := Option.some.inj ej
      rw [z] at hw; cases hw
    · rw [List.getElem?_set_ne (Ne.symm hj)] at ej
      obtain ⟨v, k1, k2⟩ := a.sh j r ej
      exact ⟨v, k1, k2.up s1⟩
  · by_cases hj : j = i
    · subst hj
      rw [List.getElem?_set_self hi] at ej
      have z := Option.some.inj ej
      subst z
      rw [hw] at et
      cases et
      refine ⟨b, o', hb, fun z => ?_, fun z => ?_, hS, hH, w⟩
      · cases s with
        | ow r => cases es; exact h2 rfl
        | io r => cases z
        | un => cases es
        | sh r => cases es
      · cases s with
        | io r => cases es; exact h3 rfl
        | ow r => cases z
        | un => cases es
        | sh r => cases es
    · rw [List.getElem?_set_ne (Ne.symm hj)] at ej
      obtain ⟨c, o2, z1, z2, z3, z4, z5, z6⟩ := a.own j t r ej et
      have hc : c ≠ b := fun z => by
        subst z
        exact hj (a.dis j i _ _ _ _ c ej et e es z1 hb)
      refine ⟨c, o2, z1, z2, z3, ?_, s4 c o2 z5 hc, z6.up s1⟩
      cases q' : S' c with
      | none => rfl
      | some o3 =>
        rcases s3 c o3 q' with z | z
        · rw [z4] at z; cases z
        · rw [z5] at z; cases z
  · have key : ∀ {j : Nat} {t : Sl} {r : PV}, (ρ.set i (s.with q))[j]? = some t → t.own? = some r → ∃ t' r', ρ[j]? = some t' ∧ t'.own? = some r' := fun {j t r} ej et => by
      by_cases hj : j = i
      · subst hj; exact ⟨s, p, e, es⟩
      · rw [List.getElem?_set_ne (Ne.symm hj)] at ej; exact ⟨t, r, ej, et⟩
    obtain ⟨t1, r1, e1, e2⟩ := key ej et
    obtain ⟨t2, r2, e3, e4⟩ := key ek eu
    exact a.dis j k _ _ _ _ c e1 e2 e3 e4 z z'
theorem Abs.lentGone {i : Nat} {s : Sl} {p : PV} {b : Addr} {S' H' : Hp} (a : Abs K H₀ S₀ M S σ H ρ) (e : ρ[i]? = some s) (es : s.own? = some p) (hb : σ[i]? = some (some (.ref b)))
    (st : Same S S' ∧ Same S' H' ∧ (∀ c o, S' c = some o → S c = some o ∨ H c = none) ∧ (∀ c o, H c = some o → c ≠ b → H' c = some o) ∧ ∀ c o, H c = some o → ∃ o', H' c = some o') :
    Abs K H₀ S₀ M S' σ H' (ρ.set i .un) := by
  obtain ⟨s1, s2, s3, s4, s5⟩ := st
  obtain ⟨b', ob, h1, h2, h3, h4, h5, h6⟩ := a.own i s p e es
  rw [hb] at h1
  cases h1
  have hi : i < ρ.length := (List.getElem?_eq_some_iff.mp e).1
  have nb : ∀ c o, H₀ c = some o → ¬ M c → c ≠ b := fun c o e0 m z => by
    subst z
    cases s with
    | ow r => cases es; rw [h2 rfl] at e0; cases e0
    | io r => cases es; exact m (h3 rfl)
    | un => cases es
    | sh r => cases es
  have ne : ∀ {j : Nat} {s : Sl}, (ρ.set i .un)[j]? = some s → s ≠ .un → j ≠ i ∧ ρ[j]? = some s := fun {j s} ej hs => by
    by_cases hj : j = i
    · subst hj
      rw [List.getElem?_set_self hi] at ej
      cases ej
      exact absurd rfl hs
    · rw [List.getElem?_set_ne (Ne.symm hj)] at ej
      exact ⟨hj, ej⟩
  have nu : ∀ {s : Sl} {q : PV}, s.own? = some q → s ≠ .un := fun {s q} h z => by subst z; cases h
  refine ⟨by rw [List.length_set]; exact a.len, s2, a.base.trans s1, fun c o z => ?_, fun c o z m => s4 c o (a.keep c o z m) (nb c o z m), fun c o z => ?_, fun j r ej => ?_, fun j t r ej et => ?_, fun j k t u r r' c ej et ek eu z z' => ?_⟩
  · rcases s3 c o z with z | z
    · exact a.grow c o z
    · exact .inr (a.none0 z)
  · obtain ⟨o1, h⟩ := a.there c o z
    exact s5 c o1 h
  · obtain ⟨v, k1, k2⟩ := a.sh j r (ne ej (by intro z; cases z)).2
    exact ⟨v, k1, k2.up s1⟩
  · obtain ⟨hj, ej⟩ := ne ej (nu et)
    obtain ⟨c, o2, z1, z2, z3, z4, z5, z6⟩ := a.own j t r ej et
    have hc : c ≠ b := fun z => by
      subst z
      exact hj (a.dis j i _ _ _ _ c ej et e es z1 hb)
    refine ⟨c, o2, z1, z2, z3, ?_, s4 c o2 z5 hc, z6.up s1⟩
    cases q' : S' c with
    | none => rfl
    | some o3 =>
      rcases s3 c o3 q' with z | z
      · rw [z4] at z; cases z
      · rw [z5] at z; cases z
  · exact a.dis j k t u r r' c (ne ej (nu et)).2 et (ne ek (nu eu)).2 eu z z'
theorem callIo_pre {n : Nat} {F : List PV → FR} {fr' : Bool} {i : Nat} {s : Sl} {p : PV} {b : Addr} {vs : List V} {ps : List PV} {Q : VK} {E : XK} (a : Abs K H₀ S₀ M S σ H ρ) (e : ρ[i]? = some s) (es : s.own? = some p) (hb : σ[i]? = some (some (.ref b))) (r : RepL K S ps vs) (hl : ps.length + 1 = n)
    (h : match F (p :: ps) with
      | .bad => False
      | .exc x => ∀ cls d S' H', Abs K H₀ S₀ M S' σ H' (ρ.set i .un) → ExcRep K mg S' H' x cls d → E cls d H'
      | .ok z q => ∀ v S' H', Abs K H₀ S₀ M S' σ H' (ρ.set i (s.with q)) → RetRep fr' K H₀ S' H' σ (ρ.set i (s.with q)) z v → Q v H') : spD K mg true fr' n F (.ref b :: vs) H Q E := by
  obtain ⟨b', ob, h1, h2, h3, h4, h5, h6⟩ := a.own i s p e es
  rw [hb] at h1
  cases h1
  refine ⟨by rw [List.length_cons, ← r.length]; exact hl, S, fun c => c = b, p :: ps, fun _ _ z z' => z.trans z'.symm, ⟨?_, a.sub, Same.refl _, fun _ _ e => .inl e, fun _ _ e _ => e, fun b o e => ⟨o, e⟩, fun j q ej => ?_, fun j t q ej et => ?_, fun j k t u q q' c ej et ek eu _ _ => ?_⟩, (fun _ z => by cases z), ?_⟩
  · rw [argSl_length, List.length_map, List.length_cons, List.length_cons, r.length]
  · obtain ⟨p', k1, k2⟩ := argSl_get ej
    rcases k2 with ⟨k2, k3⟩ | ⟨k2, _, _⟩
    · cases k2
      cases j with
      | zero => exact absurd rfl (k3 rfl)
      | succ j =>
        obtain ⟨v, h3, h4⟩ := r.get (i := j) (by simpa using k1)
        exact ⟨v, by rw [List.getElem?_map, List.getElem?_cons_succ, h3]; rfl, h4⟩
    · cases k2
  · obtain ⟨p', k1, k2⟩ := argSl_get ej
    rcases k2 with ⟨k2, _⟩ | ⟨k2, _, k3⟩
    · subst k2; cases et
    · subst k2; subst k3
      cases et
      cases k1
      exact ⟨b, ob, rfl, (fun z => by cases z), fun _ => rfl, h4, h5, h6⟩
  · obtain ⟨_, _, k2⟩ := argSl_get ej
    obtain ⟨_, _, k4⟩ := argSl_get ek
    rcases k2 with ⟨k2, _⟩ | ⟨_, _, k3⟩
    · subst k2; cases et
    · rcases k4 with ⟨k4, _⟩ | ⟨_, _, k5⟩
      · subst k4; cases eu
      · rw [k3, k5]
  · have facts : ∀ {S' H' : Hp} {σ' : St} {ρ' : Env}, Abs K H S (fun c => c = b) S' σ' H' ρ' → Same S S' ∧ Same S' H' ∧ (∀ c o, S' c = some o → S c = some o ∨ H c = none) ∧ (∀ c o, H c = some o → c ≠ b → H' c = some o) ∧ ∀ c o, H c = some o → ∃ o', H' c = some o' :=
      fun {S' H' σ' ρ'} a' => ⟨a'.base, a'.sub, a'.grow, fun c o z n => a'.keep c o z n, a'.there⟩
    cases eF : F (p :: ps) with
    | bad => simp only [eF] at h
    | exc x =>
      simp only [eF] at h
      exact fun cls d S' H' a' => h cls d S' H' (a.lentGone e es hb (facts a'))
    | ok z q =>
      simp only [eF] at h
      intro v S' H' a' rv
      obtain ⟨c, o', k1, k2, k3, k4, k5, k6⟩ := a'.own 0 (.io q) q (by simp [argSl, ioSet]) rfl
      have hc : c = b := k3 rfl
      subst hc
      have aN := a.lentBack e es hb (facts a') k4 k5 k6
      refine h v S' H' aN ?_
      unfold RetRep at rv ⊢
      cases fr' with
      | false => simpa using rv
      | true =>
        simp only [if_true] at rv ⊢
        obtain ⟨c', o2, e2, f1, f2, f3, f4, _⟩ := rv
        refine ⟨c', o2, e2, a.none0 f1, f2, f3, f4, fun j t r ej et z => ?_⟩
        have key : ∃ t' r', ρ[j]? = some t' ∧ t'.own? = some r' := by
          by_cases hj : j = i
          · subst hj; exact ⟨s, p, e, es⟩
          · rw [List.getElem?_set_ne (Ne.symm hj)] at ej; exact ⟨t, r, ej, et⟩
        obtain ⟨t', r', e3, e4⟩ := key
        obtain ⟨c3, o3, y1, _, _, _, y5, _⟩ := a.own j t' r' e3 e4
        rw [z] at y1
        cases y1
        rw [f1] at y5; cases y5
theorem XOk.callIo {n : Nat} {F : List PV → FR} {fr' : Bool} {i : Nat} {ta : TA} {da : DenL} (ha : AOk K mg W ta da) (hn : ∀ ps, F ps ≠ .bad → ps.length = n) (Rl : RelT PV V) (hR : ∀ H₀ S H σ ρ p v, RetRep fr' K H₀ S H σ ρ p v → Rl H₀ S H σ ρ p v) :
    XOk K mg W Rl (tCallS (spD K mg true fr' n F) (WE W) (tCons (tVar i) ta)) (dCallIo F i da) := fun H₀ S₀ M S σ H ρ Q ab hp => by
  unfold dCallIo at hp
  cases e0 : ownAt ρ i with
  | none => rw [e0] at hp; exact hp.elim
  | some sp =>
    obtain ⟨s0, p0⟩ := sp
    rw [e0] at hp
    obtain ⟨e1, e2⟩ := ownAt_some e0
    obtain ⟨b, o, h1, _⟩ := ab.own i _ _ e1 e2
    refine ⟨.ref b, h1, ?_⟩
    refine ha.bind (Rl' := Rl) ab hp fun ps ρ1 vs S1 H1 _ a1 _ r hp => ?_
    cases e3 : ownAt ρ1 i with
    | none => rw [e3] at hp; exact hp.elim
    | some sp =>
      obtain ⟨s, p⟩ := sp
      rw [e3] at hp
      obtain ⟨e4, e5⟩ := ownAt_some e3
      cases eF : F (p :: ps) with
      | bad => simp only [eF] at hp; exact hp.elim
      | exc x =>
        simp only [eF] at hp
        refine callIo_pre a1 e4 e5 h1 r (by simpa using hn (p :: ps) (by rw [eF]; intro z; cases z)) ?_
        simp only [eF]
        exact fun cls d S' H' a2 re => hp cls d S' H' a2 re
      | ok z q =>
        simp only [eF] at hp
        refine callIo_pre a1 e4 e5 h1 r (by simpa using hn (p :: ps) (by rw [eF]; intro z; cases z)) ?_
        simp only [eF]
        exact fun v S' H' a2 rv => hp v S' H' a2 (hR _ _ _ _ _ _ _ rv)
theorem eo_callIo {n : Nat} {F : List PV → FR} {i : Nat} {ta : TA} {da : DenL} (ha : AOk K mg W ta da) (hn : ∀ ps, F ps ≠ .bad → ps.length = n) : EOk K mg W (tCallS (spD K mg true false n F) (WE W) (tCons (tVar i) ta)) (dCallIo F i da) :=
  XOk.callIo ha hn (rV K) fun _ _ _ _ _ _ _ h => h
theorem fo_callIo {n : Nat} {F : List PV → FR} {i : Nat} {ta : TA} {da : DenL} (ha : AOk K mg W ta da) (hn : ∀ ps, F ps ≠ .bad → ps.length = n) : FOk K mg W (tCallS (spD K mg true true n F) (WE W) (tCons (tVar i) ta)) (dCallIo F i da) :=
  XOk.callIo ha hn (rF K) fun _ _ _ _ _ _ _ h => h

/-! ### a def by its body -/
theorem body_ok {io fr : Bool} {n len : Nat} {t : TS} {d : DenS} {vs : List V} {H : Hp} {Q : VK} {E : XK} (hb : SOk K mg (fun cls dd _ H => E cls dd H) fr t d) (hl : n ≤ len) (h : spD K mg io fr n (runD io fr n len d) vs H Q E) :
    t { nx := fun _ H' => Q .non H', rt := Q } (vs.map some ++ List.replicate (len - vs.length) none) H := by
  obtain ⟨hv, S, M, ps, hM, ab, hne, h⟩ := h
  have hps : ps.length = n := by
    have z := ab.len
    rw [argSl_length, List.length_map] at z
    omega
  have start : Abs K H S M S (vs.map some ++ List.replicate (len - vs.length) none) H (argSl io ps ++ List.replicate (len - n) .un) := by
    refine ab.forget ?_ fun i s e hs => ?_
    · rw [List.length_append, List.length_append, argSl_length, List.length_replicate, List.length_replicate, List.length_map]
      omega
    · have hi : i < (argSl io ps).length := by
        rcases Nat.lt_or_ge i (argSl io ps).length with h | h
        · exact h
        · rw [List.getElem?_append_right h, List.getElem?_replicate] at e
          split at e
          · cases e; exact absurd rfl hs
          · cases e
      rw [List.getElem?_append_left hi] at e
      refine ⟨e, ?_⟩
      rw [List.getElem?_append_left (by rw [← ab.len]; exact hi)]
  -- back at the parameters
  have back : ∀ {S' : Hp} {σ' : St} {H' : Hp} {ρ' : Env} {q : PV}, Abs K H S M S' σ' H' ρ' → (io = true → ρ'[0]? = some (.io q)) → Abs K H S M S' (vs.map some) H' (argSl io (ioSet io ps q)) := fun {S' σ' H' ρ' q} a hq => by
    have il : (ioSet io ps q).length = ps.length := by unfold ioSet; split <;> simp
    refine ⟨by rw [argSl_length, il, ← argSl_length io ps]; exact ab.len, a.sub, a.base, a.grow, a.keep, a.there, fun i p e => ?_, fun i s p e es => ?_, fun i j s t p p' c e es e' es' z z' => ?_⟩
    · obtain ⟨p', k1, k2⟩ := argSl_get e
      rcases k2 with ⟨k2, k3⟩ | ⟨k2, _, _⟩
      · cases k2
        have e0 : ps[i]? = some p := by
          unfold ioSet at k1
          by_cases hio : io = true
          · rw [if_pos hio, List.getElem?_set_ne (Ne.symm (k3 hio))] at k1
            exact k1
          · rw [if_neg hio] at k1
            exact k1
        have e1 : (argSl io ps)[i]? = some (.sh p) := by
          unfold argSl
          split
          · rename_i r
            cases i with
            | zero => exact absurd rfl (k3 rfl)
            | succ i => simp at e0 ⊢; exact e0
          · simp [e0]
        obtain ⟨v, z1, z2⟩ := ab.sh i p e1
        exact ⟨v, z1, z2.up a.base⟩
      · cases k2
    · obtain ⟨p', k1, k2⟩ := argSl_get e
      rcases k2 with ⟨k2, k3⟩ | ⟨k2, hio, hi⟩
      · subst k2; cases es
      · subst k2; subst hi
        cases es
        unfold ioSet at k1
        rw [if_pos hio] at k1
        have hpq : p = q := by
          cases ps with
          | nil => simp at k1
          | cons a r => simp at k1; exact k1.symm
        subst hpq
        obtain ⟨c, o, z1, z2, z3, z4, z5, z6⟩ := a.own 0 _ _ (hq hio) rfl
        cases ps with
        | nil => exact absurd rfl (hne hio)
        | cons a0 r =>
          subst hio
          obtain ⟨c', o', y1, y2, y3, y4, y5, y6⟩ := ab.own 0 (.io a0) a0 (by simp [argSl]) rfl
          have hcc : c = c' := hM c c' (z3 rfl) (y3 rfl)
          subst hcc
          exact ⟨c, o, y1, (fun z => by cases z), fun _ => z3 rfl, z4, z5, z6⟩
    · obtain ⟨_, _, k2⟩ := argSl_get e
      obtain ⟨_, _, k4⟩ := argSl_get e'
      rcases k2 with ⟨k2, _⟩ | ⟨_, _, k3⟩
      · subst k2; cases es
      · rcases k4 with ⟨k4, _⟩ | ⟨_, _, k5⟩
        · subst k4; cases es'
        · rw [k3, k5]
  have rb : ∀ {S' : Hp} {σ' : St} {H' : Hp} {ρ' : Env} {p : PV} {v : V}, RetRep fr K H S' H' σ' ρ' p v → RetRep fr K H S' H' [] [] p v := fun {S' σ' H' ρ' p v} r => by
    unfold RetRep at r ⊢
    cases fr with
    | false => simpa using r
    | true =>
      simp only [if_true] at r ⊢
      obtain ⟨c, o, e, f1, f2, f3, f4, _⟩ := r
      exact ⟨c, o, e, f1, f2, f3, f4, fun j s q ej => by simp at ej⟩
  refine hb H S M S _ H _ _ start ?_
  unfold runD at h
  rw [if_pos hps] at h
  cases eR : d (argSl io ps ++ List.replicate (len - n) .un) with
  | bad => simp only [eR] at h
  | exc x ρ' => simp only [eR] at h; exact fun cls dd S' σ' H' a r => h cls dd S' H' a.bare r
  | bk ρ' => simp only [eR] at h
  | ct ρ' => simp only [eR] at h
  | nx ρ' =>
    simp only [eR] at h
    intro S' σ' H' a
    by_cases hf : fr = true
    · rw [if_pos hf] at h; exact h.elim
    · rw [if_neg hf] at h
      have rN : RetRep fr K H S' H' [] [] .non .non := by
        unfold RetRep
        rw [if_neg hf]
        exact .non
      unfold fin0 at h
      by_cases hio : io = true
      · rw [if_pos hio] at h
        cases e0 : io0 ρ' with
        | none => rw [e0] at h; exact h.elim
        | some q => rw [e0] at h; exact h .non S' H' (back a fun _ => io0_get e0) rN
      · rw [if_neg hio] at h
        exact h .non S' H' (back a fun z => absurd z hio) rN
  | rt p ρ' =>
    simp only [eR] at h
    intro v S' σ' H' a r
    unfold fin0 at h
    by_cases hio : io = true
    · rw [if_pos hio] at h
      cases e0 : io0 ρ' with
      | none => rw [e0] at h; exact h.elim
      | some q => rw [e0] at h; exact h v S' H' (back a fun _ => io0_get e0) (rb r)
    · rw [if_neg hio] at h
      exact h v S' H' (back a fun z => absurd z hio) (rb r)
end
/-- THE RULE for a def -/
theorem fn_ok {P : Program} {w : World} {K : PySem.W.Frag} {mg : Str → Option Value} {base : Heap} {x qual : Str} {st : Stmt} {f : Addr} {fd : FuncData} {N ps : List Str} {k : Nat} {io fr : Bool} {d : DenS} (F : Fun K x qual st f fd) (S : FnScope N ps (defScope st))
    (hl : ps.length ≤ N.length)
    (hbody : ∀ (cdv : Value) (A : Around) (outer : List PySem.Env) (s : Shared) (H : Hp) (E : XK), Room k (A.deeper (PyProof.Rows.envOfC qual (defScope st) s.heap.objs.size f cdv)) →
      ∃ t, PSs (cxOf (L2.CX P w) P w K mg base N qual (defScope st) f cdv A outer s H E) (defBody st) t ∧ SOk K mg (fun cls dd _ H => E cls dd H) fr t d) :
    FnOk P w K mg base (L2.CX P w) (k + 1) f fd ps (spD K mg io fr ps.length (runD io fr ps.length N.length d)) :=
  F.okX S (fun vs H Q E h => h.1) fun cdv A outer s H vs Q E hr h => by
    obtain ⟨t, h1, h2⟩ := hbody cdv A outer s H E hr
    refine ⟨t, h1, ?_⟩
    have z := body_ok h2 hl h
    exact z
/-- a promise by a function that agrees -/
theorem fn_eq {P : Program} {w : World} {K : PySem.W.Frag} {mg : Str → Option Value} {base : Heap} {CX : CXT} {k n : Nat} {f : Addr} {fd : FuncData} {ps : List Str} {io fr : Bool} {F G : List PV → FR} (h : FnOk P w K mg base CX k f fd ps (spD K mg io fr n F)) (e : ∀ ps, G ps ≠ .bad → F ps = G ps) :
    FnOk P w K mg base CX k f fd ps (spD K mg io fr n G) := h.imp fun vs H Q E q => by
  obtain ⟨h1, S, M, qs, h2, h3, h4, h5⟩ := q
  refine ⟨h1, S, M, qs, h2, h3, h4, ?_⟩
  cases eG : G qs with
  | bad => rw [eG] at h5; exact h5.elim
  | exc x => rw [e qs (by rw [eG]; intro z; cases z), eG]; rw [eG] at h5; exact h5
  | ok p q => rw [e qs (by rw [eG]; intro z; cases z), eG]; rw [eG] at h5; exact h5
end PL

set_option Elab.async false
set_option linter.all false
set_option maxRecDepth 100000
set_option maxHeartbeats 4000000
namespace PL
open PySem PySem.Spec L2
set_option autoImplicit false

/-! ### plain values as data -/
mutual
def PV.toD : PV → PyData
  | .non => .none
  | .bl b => .bool b
  | .int i => .int i
  | .str x => .str x
  | .lst ps => .list (toDs ps)
  | .tup ps => .tuple (toDs ps)
  | .ktup ps => .tuple (toDs ps)
  | .dic _ _ _ => .dict []
  | .fn _ => .dict []
  | .klst _ => .dict []
def toDs : List PV → List PyData
  | [] => []
  | p :: ps => p.toD :: toDs ps
end
section
variable {K : PySem.W.Frag} {S H : Hp}
mutual
theorem Rep.dp (e : Same S H) : ∀ (p : PV) (v : V), Rep K S p v → p.toD.canLay0 = true → Dp K H v p.toD
  | .non, _, h, _ => by cases h; exact .non
  | .bl b, _, h, _ => by cases h; exact .bl b
  | .int i, _, h, _ => by cases h; exact .int i
  | .str x, _, h, _ => by cases h; exact .str x
  | .fn a, _, h, c => by simp [PV.toD, PyData.canLay0] at c
  | .lst ps, _, h, c => by
    cases h with
    | lst h1 h2 => exact .lst (.inl (.inl (e _ _ h1))) (RepL.dp e ps _ h2 (by simpa [PV.toD, PyData.canLay0] using c))
  | .tup ps, _, h, c => by
    cases h with
    | tup h1 h2 => exact .tup (.inl (.inl (e _ _ h1))) (RepL.dp e ps _ h2 (by simpa [PV.toD, PyData.canLay0] using c))
  | .ktup ps, _, h, c => by
    cases h with
    | ktup h1 h2 => exact .tup (Same.tupK e h1) (RepL.dp e ps _ h2 (by simpa [PV.toD, PyData.canLay0] using c))
  | .dic t ks ps, _, h, c => by simp [PV.toD, PyData.canLay0] at c
  | .klst ps, _, h, c => by simp [PV.toD, PyData.canLay0] at c
theorem RepL.dp (e : Same S H) : ∀ (ps : List PV) (vs : List V), RepL K S ps vs → PyData.canLayAll0 (toDs ps) = true → DpAll K H vs (toDs ps)
  | [], _, h, _ => by cases h; exact .nil
  | p :: ps, _, h, c => by
    cases h with
    | cons h1 h2 =>
      have c' : p.toD.canLay0 = true ∧ PyData.canLayAll0 (toDs ps) = true := by simpa [toDs, PyData.canLayAll0] using c
      exact .cons (Rep.dp e p _ h1 c'.1) (RepL.dp e ps _ h2 c'.2)
end
end

/-! ### operations on plain values -/
def gAdd : PV → PV → Option PV
  | .int i, .int j => some (.int (i + j))
  | .str x, .str y => if x.length + y.length ≤ sizeLine then some (.str (x ++ y)) else none
  | .lst xs, .lst ys => if xs.length + ys.length ≤ sizeLine then some (.lst (xs ++ ys)) else none
  | .tup xs, .tup ys => if xs.length + ys.length ≤ sizeLine then some (.tup (xs ++ ys)) else none
  | _, _ => none
def gCat : PV → PV → Option PV := fun p q => match p, q with
    | .lst xs, .lst ys => if xs.length + ys.length ≤ sizeLine then some (.lst (xs ++ ys)) else none
    | _, _ => none
def gRep : PV → PV → Option PV := fun p q => match p, q with
    | .lst xs, .int k => if decide (-(2 ^ 63) ≤ k) && decide (k < 2 ^ 63) && decide (xs.length * k.toNat ≤ sizeLine) then some (.lst (List.replicate k.toNat xs).flatten) else none
    | _, _ => none
def gSub : PV → PV → Option PV
  | .int i, .int j => some (.int (i - j))
  | _, _ => none
def smallI (i : Int) : Bool := decide (-(2 ^ 64) < i) && decide (i < 2 ^ 64)
def gMul : PV → PV → Option PV
  | .int i, .int j => if smallI i || smallI j then some (.int (i * j)) else none
  | .lst xs, .int k => if decide (-(2 ^ 63) ≤ k) && decide (k < 2 ^ 63) && decide (xs.length * k.toNat ≤ sizeLine) then some (.lst (List.replicate k.toNat xs).flatten) else none
  | _, _ => none
def gFdiv : PV → PV → Option PV
  | .int i, .int j => if decide (0 < j) && decide (j < 1073741824) then some (.int (i / j)) else none
  | _, _ => none
def gMod : PV → PV → Option PV
  | .int i, .int j => if decide (0 < j) then some (.int (i % j)) else none
  | _, _ => none
def gPow : PV → PV → Option PV
  | .int i, .int j => if decide (0 ≤ j) && decide (j ≤ 1000000) && decide (i.natAbs < 2 ^ 64) then some (.int (i ^ j.toNat)) else none
  | _, _ => none
def gNeg : PV → Option PV
  | .int i => some (.int (-i))
  | _ => none
def gCmpI (f : Int → Int → Bool) : PV → PV → Option PV
  | .int i, .int j => some (.bl (f i j))
  | _, _ => none
abbrev gLt := gCmpI fun i j => decide (i < j)
abbrev gLe := gCmpI fun i j => decide (i ≤ j)
abbrev gGt := gCmpI fun i j => decide (j < i)
abbrev gGe := gCmpI fun i j => decide (j ≤ i)
def pvEq (p q : PV) : Bool := PyData.eqv p.toD q.toD
def gEq (p q : PV) : Option PV := if SeqAt.shaped p.toD && SeqAt.shaped q.toD then some (.bl (pvEq p q)) else none
def gNe (p q : PV) : Option PV := if SeqAt.shaped p.toD && SeqAt.shaped q.toD then some (.bl (!pvEq p q)) else none
def gIsN (neg : Bool) : PV → PV → Option PV
  | .non, .non => some (.bl (!neg))
  | .fn _, .non => none
  | _, .non => some (.bl neg)
  | _, _ => none
/-- one sign of a text -/
def sgn1 (x : Str) : Option Nat := match x.cps.toList with
  | [c] => some c
  | _ => none
def gIn (neg : Bool) : PV → PV → Option PV
  | .str x, .str z => (sgn1 x).map fun c => .bl (if neg then !decide (c ∈ z.cps.toList) else decide (c ∈ z.cps.toList))
  | p, .lst ps => if SeqAt.shaped p.toD && SeqAt.shaped (PV.lst ps).toD then some (.bl (if neg then !ps.any (fun y => pvEq y p) else ps.any fun y => pvEq y p)) else none
  | _, _ => none
def gIx : PV → PV → Option PV
  | .lst ps, .int i => atI ps i
  | .tup ps, .int i => atI ps i
  | .ktup ps, .int i => atI ps i
  | .klst ps, .int i => atI ps i
  | .str z, .int i => if z.length ≤ sizeLine then (atI z.cps.toList i).map fun c => .str ⟨#[c]⟩ else none
  | _, _ => none
def cutP {α : Type} (xs : List α) (lo hi : Option Int) : List α := (xs.drop (HT.sIx xs.length 0 lo)).take (HT.sIx xs.length xs.length hi - HT.sIx xs.length 0 lo)
def gLen : PV → Option PV
  | .lst ps => some (.int ps.length)
  | .tup ps => some (.int ps.length)
  | .ktup ps => some (.int ps.length)
  | .klst ps => some (.int ps.length)
  | .str z => if z.length ≤ sizeLine then some (.int z.length) else none
  | _ => none
def ints? : List PV → Option (List Int)
  | [] => some []
  | .int i :: r => (ints? r).map (i :: ·)
  | _ :: _ => none
def strs? : List PV → Option (List Str)
  | [] => some []
  | .str i :: r => (strs? r).map (i :: ·)
  | _ :: _ => none
def gSum : PV → Option PV
  | .lst ps => (ints? ps).map fun ns => .int ns.sum
  | _ => none
section
variable {K : PySem.W.Frag}
theorem RepL.ints {S : Hp} : ∀ {ps : List PV} {vs : List V} {ns : List Int}, RepL K S ps vs → ints? ps = some ns → vs = ns.map V.int
  | [], _, _, h, e => by cases h; cases e; rfl
  | p :: ps, _, ns, h, e => by
    cases h with
    | cons h1 h2 =>
      cases p with
      | int i =>
        unfold ints? at e
        cases e1 : ints? ps with
        | none => rw [e1] at e; cases e
        | some ms =>
          rw [e1] at e
          cases e
          cases h1
          rw [RepL.ints h2 e1]
          rfl
      | _ => cases e
theorem RepL.strs {S : Hp} : ∀ {ps : List PV} {vs : List V} {ns : List Str}, RepL K S ps vs → strs? ps = some ns → vs = ns.map V.str
  | [], _, _, h, e => by cases h; cases e; rfl
  | p :: ps, _, ns, h, e => by
    cases h with
    | cons h1 h2 =>
      cases p with
      | str i =>
        unfold strs? at e
        cases e1 : strs? ps with
        | none => rw [e1] at e; cases e
        | some ms =>
          rw [e1] at e
          cases e
          cases h1
          rw [RepL.strs h2 e1]
          rfl
      | _ => cases e
theorem RepL.atI {S : Hp} {ps : List PV} {vs : List V} {i : Int} {p : PV} (h : RepL K S ps vs) (e : L2.atI ps i = some p) : ∃ v, L2.atI vs i = some v ∧ Rep K S p v := by
  unfold L2.atI at e ⊢
  rw [← h.length]
  cases e1 : ixN ps.length i with
  | none => rw [e1] at e; cases e
  | some j =>
    rw [e1] at e
    exact h.get e
theorem RepL.cut {S : Hp} {ps : List PV} {vs : List V} {lo hi : Option Int} (h : RepL K S ps vs) : RepL K S (cutP ps lo hi) (cutV vs lo hi) := by
  unfold cutP cutV
  rw [h.length]
  exact (h.drop _).take _
theorem RepL.flat {S : Hp} {ps : List PV} {vs : List V} (h : RepL K S ps vs) : ∀ n, RepL K S (List.replicate n ps).flatten (List.replicate n vs).flatten
  | 0 => .nil
  | n + 1 => by
    rw [List.replicate_succ, List.replicate_succ, List.flatten_cons, List.flatten_cons]
    exact h.append (RepL.flat h n)
/-! ### .. and the rules by values -/
def rAddU (K : PySem.W.Frag) : R2 := fun x y H Q => (∃ i j, x = .int i ∧ y = .int j ∧ Q (.int (i + j)) H) ∨ (∃ i j, x = .str i ∧ y = .str j ∧ i.length + j.length ≤ sizeLine ∧ Q (.str (i ++ j)) H) ∨ rCat x y H Q ∨ rCatA K x y H Q
theorem op_addU {X : Cx} : OpR X (binaryOp .Add) (rAddU X.K) := OpR.or op_add (OpR.or op_add_str (OpR.or op_cat op_catA))
theorem v2_cat : V2F K rCat gCat := by
  intro S H x y p q z Q s rx ry e k
  unfold gCat at e
  split at e
  · rename_i xs ys
    split at e
    · rename_i hz
      cases e
      cases rx with
      | lst h1 h2 =>
        cases ry with
        | lst h3 h4 =>
          rw [h2.length, h4.length] at hz
          exact ⟨_, _, _, _, rfl, rfl, s _ _ h1, s _ _ h3, hz, fun a n => k a _ n (h2.append h4)⟩
    · cases e
  · cases e
theorem v2_add : V2 K (rAddU K) gAdd := by
  intro S H x y p q z Q s rx ry e k
  unfold gAdd at e
  split at e
  · cases rx; cases ry; cases e
    exact .inl ⟨_, _, rfl, rfl, k _ S H (Step.refl s) (.int _)⟩
  · split at e
    · rename_i hz
      cases rx; cases ry; cases e
      exact .inr (.inl ⟨_, _, rfl, rfl, hz, k _ S H (Step.refl s) (.str _)⟩)
    · cases e
  · exact .inr (.inr (.inl (v2_cat.v2 S H x y _ _ z Q s rx ry e k)))
  · split at e
    · rename_i xs ys hz
      cases e
      refine .inr (.inr (.inr ?_))
      cases rx with
      | tup h1 h2 =>
        cases ry with
        | tup h3 h4 =>
          rename_i a vs b us
          have hz' := hz
          rw [h2.length, h4.length] at hz'
          refine ⟨_, _, _, _, rfl, rfl, .inl (.inl (s _ _ h1)), .inl (.inl (s _ _ h3)), hz', fun e1 => ?_, fun _ e2 => ?_, fun _ _ c n => ?_⟩
          · subst e1
            cases h2
            exact k _ S H (Step.refl s) (.tup h3 h4)
          · subst e2
            cases h4
            rw [List.append_nil] at k
            exact k _ S H (Step.refl s) (.tup h1 h2)
          · refine k _ (upd S c (.tup (vs ++ us))) _ (Step.new1 s n) ?_
            exact .tup upd_same ((h2.append h4).up (same_upd (Same.free s n)))
    · cases e
  · cases e
theorem v2_sub : V2 K (rI0 fun i j => .int (i - j)) gSub := by
  intro S H x y p q z Q s rx ry e k
  unfold gSub at e
  split at e
  · cases rx; cases ry; cases e
    exact ⟨_, _, rfl, rfl, k _ S H (Step.refl s) (.int _)⟩
  · cases e
def rMulU : R2 := fun x y H Q => rI CMul (fun i j => .int (i * j)) x y H Q ∨ rRep x y H Q
theorem op_mulU {X : Cx} : OpR X (binaryOp .Mult) rMulU := OpR.or op_mul op_rep
theorem smallI_iff {i : Int} : smallI i = true ↔ -(2 ^ 64) < i ∧ i < 2 ^ 64 := by unfold smallI; simp
theorem v2_rep : V2F K rRep gRep := by
  intro S H x y p q z Q s rx ry e k
  unfold gRep at e
  split at e
  · rename_i xs n
    split at e
    · rename_i hz
      cases e
      simp only [Bool.and_eq_true, decide_eq_true_eq] at hz
      cases rx with
      | lst h1 h2 =>
        cases ry
        rw [h2.length] at hz
        exact ⟨_, _, _, rfl, rfl, s _ _ h1, hz.1.1, hz.1.2, hz.2, fun a n' => k a _ n' (h2.flat _)⟩
    · cases e
  · cases e
theorem v2_mul : V2 K rMulU gMul := by
  intro S H x y p q z Q s rx ry e k
  unfold gMul at e
  split at e
  · split at e
    · rename_i hz
      cases rx; cases ry; cases e
      refine .inl ⟨_, _, rfl, rfl, ?_, k _ S H (Step.refl s) (.int _)⟩
      rcases (Bool.or_eq_true _ _).mp hz with h | h
      · exact .inl (smallI_iff.mp h)
      · exact .inr (smallI_iff.mp h)
    · cases e
  · rename_i xs n
    exact .inr (v2_rep.v2 S H x y (.lst xs) (.int n) z Q s rx ry e k)
  · cases e
theorem v2_fdiv : V2 K (rI CDiv fun i j => .int (i / j)) gFdiv := by
  intro S H x y p q z Q s rx ry e k
  unfold gFdiv at e
  split at e
  · split at e
    · rename_i hz
      simp only [Bool.and_eq_true, decide_eq_true_eq] at hz
      cases rx; cases ry; cases e
      exact ⟨_, _, rfl, rfl, hz, k _ S H (Step.refl s) (.int _)⟩
    · cases e
  · cases e
theorem v2_mod : V2 K (rI (fun _ j => 0 < j) fun i j => .int (i % j)) gMod := by
  intro S H x y p q z Q s rx ry e k
  unfold gMod at e
  split at e
  · split at e
    · rename_i hz
      cases rx; cases ry; cases e
      exact ⟨_, _, rfl, rfl, of_decide_eq_true hz, k _ S H (Step.refl s) (.int _)⟩
    · cases e
  · cases e
theorem v2_pow : V2 K (rI CPow fun i j => .int (i ^ j.toNat)) gPow := by
  intro S H x y p q z Q s rx ry e k
  unfold gPow at e
  split at e
  · split at e
    · rename_i hz
      simp only [Bool.and_eq_true, decide_eq_true_eq] at hz
      cases rx; cases ry; cases e
      exact ⟨_, _, rfl, rfl, ⟨hz.1.1, hz.1.2, hz.2⟩, k _ S H (Step.refl s) (.int _)⟩
    · cases e
  · cases e
theorem v1_neg : V1 K (rU fun i => .int (-i)) gNeg := by
  intro S H x p z Q s rx e k
  unfold gNeg at e
  split at e
  · cases rx; cases e
    exact ⟨_, rfl, k _ S H (Step.refl s) (.int _)⟩
  · cases e
theorem v2_cmp {f : Int → Int → Bool} : V2 K (rI0 fun i j => .bl (f i j)) (gCmpI f) := by
  intro S H x y p q z Q s rx ry e k
  unfold gCmpI at e
  split at e
  · cases rx; cases ry; cases e
    exact ⟨_, _, rfl, rfl, k _ S H (Step.refl s) (.bl _)⟩
  · cases e
theorem v2_eq : V2 K (rEqD K) gEq := by
  intro S H x y p q z Q s rx ry e k
  unfold gEq at e
  split at e
  · rename_i hz
    cases e
    obtain ⟨h1, h2⟩ := (Bool.and_eq_true _ _).mp hz
    exact ⟨_, _, rx.dp s _ _ (SeqAt.canLay_of_shaped h1), ry.dp s _ _ (SeqAt.canLay_of_shaped h2), h1, h2, k _ S H (Step.refl s) (.bl _)⟩
  · cases e
theorem v2_ne : V2 K (rNeD K) gNe := by
  intro S H x y p q z Q s rx ry e k
  unfold gNe at e
  split at e
  · rename_i hz
    cases e
    obtain ⟨h1, h2⟩ := (Bool.and_eq_true _ _).mp hz
    exact ⟨_, _, rx.dp s _ _ (SeqAt.canLay_of_shaped h1), ry.dp s _ _ (SeqAt.canLay_of_shaped h2), h1, h2, k _ S H (Step.refl s) (.bl _)⟩
  · cases e
theorem rep_non {S : Hp} {p : PV} {x : V} (r : Rep K S p x) : decide (x = .non) = (match p with | .non => true | _ => false) := by
  cases r <;> simp
theorem v2_isN : V2 K (fun x y H Q => y = .non ∧ Q (.bl (decide (x = .non))) H) (gIsN false) := by
  intro S H x y p q z Q s rx ry e k
  have hr := rep_non rx
  cases q with
  | non =>
    cases ry
    refine ⟨rfl, ?_⟩
    rw [hr]
    cases p <;> simp [gIsN] at e <;> subst e <;> exact k _ S H (Step.refl s) (.bl _)
  | _ => cases p <;> simp [gIsN] at e
theorem v2_notN : V2 K (fun x y H Q => y = .non ∧ Q (.bl (!decide (x = .non))) H) (gIsN true) := by
  intro S H x y p q z Q s rx ry e k
  have hr := rep_non rx
  cases q with
  | non =>
    cases ry
    refine ⟨rfl, ?_⟩
    rw [hr]
    cases p <;> simp [gIsN] at e <;> subst e <;> exact k _ S H (Step.refl s) (.bl _)
  | _ => cases p <;> simp [gIsN] at e
theorem sgn1_eq {x : Str} {c : Nat} (h : sgn1 x = some c) : x = ⟨#[c]⟩ := by
  unfold sgn1 at h
  split at h
  · rename_i d e
    cases h
    exact Str.ext' (by rw [← Array.toArray_toList (xs := x.cps), e])
  · cases h
theorem any_toDs (p : PV) : ∀ ps : List PV, (toDs ps).any (fun z => PyData.eqv z p.toD) = ps.any fun y => pvEq y p
  | [] => rfl
  | q :: ps => by
    show (PyData.eqv q.toD p.toD || (toDs ps).any fun z => PyData.eqv z p.toD) = _
    rw [any_toDs p ps]
    rfl
def rInU (K : PySem.W.Frag) : R2 := fun x y H Q => (∃ (c : Nat) (z : Str), x = .str ⟨#[c]⟩ ∧ y = .str z ∧ Q (.bl (decide (c ∈ z.cps.toList))) H) ∨ rInD K x y H Q
def rNotInU (K : PySem.W.Frag) : R2 := fun x y H Q => (∃ (c : Nat) (z : Str), x = .str ⟨#[c]⟩ ∧ y = .str z ∧ Q (.bl (!decide (c ∈ z.cps.toList))) H) ∨ rNotInD K x y H Q
theorem v2_in : V2 K (rInU K) (gIn false) := by
  intro S H x y p q z Q s rx ry e k
  unfold gIn at e
  split at e
  · rename_i a b
    cases hs : sgn1 a with
    | none => rw [hs] at e; cases e
    | some c =>
      rw [hs] at e
      cases e
      cases rx; cases ry
      rw [sgn1_eq hs]
      exact .inl ⟨c, _, rfl, rfl, k _ S H (Step.refl s) (.bl _)⟩
  · rename_i ps _
    split at e
    · rename_i hz
      cases e
      obtain ⟨h1, h2⟩ := (Bool.and_eq_true _ _).mp hz
      refine .inr ⟨_, _, rx.dp s _ _ (SeqAt.canLay_of_shaped h1), ry.dp s _ _ (SeqAt.canLay_of_shaped h2), h1, h2, ?_⟩
      rw [any_toDs]
      exact k _ S H (Step.refl s) (.bl _)
    · cases e
  · cases e
theorem v2_notIn : V2 K (rNotInU K) (gIn true) := by
  intro S H x y p q z Q s rx ry e k
  unfold gIn at e
  split at e
  · rename_i a b
    cases hs : sgn1 a with
    | none => rw [hs] at e; cases e
    | some c =>
      rw [hs] at e
      cases e
      cases rx; cases ry
      rw [sgn1_eq hs]
      exact .inl ⟨c, _, rfl, rfl, k _ S H (Step.refl s) (.bl _)⟩
  · rename_i ps _
    split at e
    · rename_i hz
      cases e
      obtain ⟨h1, h2⟩ := (Bool.and_eq_true _ _).mp hz
      refine .inr ⟨_, _, rx.dp s _ _ (SeqAt.canLay_of_shaped h1), ry.dp s _ _ (SeqAt.canLay_of_shaped h2), h1, h2, ?_⟩
      rw [any_toDs]
      exact k _ S H (Step.refl s) (.bl _)
    · cases e
  · cases e
theorem v2_ix : V2 K (rIx K) gIx := by
  intro S H x y p q z Q s rx ry e k
  unfold gIx at e
  split at e
  · cases ry
    cases rx with
    | lst h1 h2 =>
      obtain ⟨v, h3, h4⟩ := h2.atI e
      exact .inl ⟨_, _, _, _, rfl, rfl, .inl (.inl (s _ _ h1)), h3, k _ S H (Step.refl s) h4⟩
  · cases ry
    cases rx with
    | tup h1 h2 =>
      obtain ⟨v, h3, h4⟩ := h2.atI e
      exact .inr (.inl ⟨_, _, _, _, rfl, rfl, .inl (.inl (s _ _ h1)), h3, k _ S H (Step.refl s) h4⟩)
  · cases ry
    cases rx with
    | ktup h1 h2 =>
      obtain ⟨v, h3, h4⟩ := h2.atI e
      exact .inr (.inl ⟨_, _, _, _, rfl, rfl, Same.tupK s h1, h3, k _ S H (Step.refl s) h4⟩)
  · cases ry
    cases rx with
    | klst h1 h2 =>
      obtain ⟨v, h3, h4⟩ := h2.atI e
      exact .inl ⟨_, _, _, _, rfl, rfl, Same.lstK s h1, h3, k _ S H (Step.refl s) h4⟩
  · cases ry; cases rx
    split at e
    · rename_i z' i hz
      cases h : L2.atI z'.cps.toList i with
      | none => rw [h] at e; cases e
      | some c =>
        rw [h] at e
        cases e
        exact .inr (.inr ⟨_, _, _, rfl, rfl, hz, h, k _ S H (Step.refl s) (.str _)⟩)
    · cases e
  · cases e
theorem vt_truth : VT K (fun x H Q => ∃ k, TruV K x H k ∧ Q k H) truth := by
  intro S H x p z Q s rx e k
  cases p with
  | non => cases rx; cases e; exact ⟨_, rfl, k⟩
  | bl b => cases rx; cases e; exact ⟨_, rfl, k⟩
  | int i => cases rx; cases e; exact ⟨_, rfl, k⟩
  | str y =>
    cases rx
    have e : (if y.length ≤ sizeLine then some ((y.length : Int) != 0) else none) = some z := e
    split at e
    · rename_i hz
      cases e
      exact ⟨_, ⟨hz, rfl⟩, k⟩
    · cases e
  | lst ps =>
    cases rx with
    | lst h1 h2 =>
      cases e
      refine ⟨_, .inl ⟨_, .inl (.inl (s _ _ h1)), ?_⟩, k⟩
      cases h2 <;> rfl
  | tup ps =>
    cases rx with
    | tup h1 h2 =>
      cases e
      refine ⟨_, .inr (.inl ⟨_, .inl (.inl (s _ _ h1)), ?_⟩), k⟩
      cases h2 <;> rfl
  | ktup ps =>
    cases rx with
    | ktup h1 h2 =>
      cases e
      refine ⟨_, .inr (.inl ⟨_, Same.tupK s h1, ?_⟩), k⟩
      cases h2 <;> rfl
  | klst ps =>
    cases rx with
    | klst h1 h2 =>
      cases e
      refine ⟨_, .inl ⟨_, Same.lstK s h1, ?_⟩, k⟩
      cases h2 <;> rfl
  | dic t ks ps => cases e
  | fn a => cases e
/-! ### slices -/
def VS (K : PySem.W.Frag) (r : V → Option Int → Option Int → Hp → VK → Prop) (g : PV → Option Int → Option Int → Option PV) : Prop :=
  ∀ (S H : Hp) (x : V) (p z : PV) (lo hi : Option Int) (Q : VK), Same S H → Rep K S p x → g p lo hi = some z → (∀ v S' H', Step S H S' H' → Rep K S' z v → Q v H') → r x lo hi H Q
def VSF (K : PySem.W.Frag) (r : V → Option Int → Option Int → Hp → VK → Prop) (g : PV → Option Int → Option Int → Option PV) : Prop :=
  ∀ (S H : Hp) (x : V) (p z : PV) (lo hi : Option Int) (Q : VK), Same S H → Rep K S p x → g p lo hi = some z → (∀ a o, H a = none → OwnO K S z o → Q (.ref a) (upd H a o)) → r x lo hi H Q
def gSl : PV → Option Int → Option Int → Option PV
  | .lst ps, lo, hi => some (.lst (cutP ps lo hi))
  | .tup ps, lo, hi => some (.tup (cutP ps lo hi))
  | .str z, lo, hi => if z.length ≤ sizeLine then some (.str (cutS z lo hi)) else none
  | _, _, _ => none
def gSlL : PV → Option Int → Option Int → Option PV
  | .lst ps, lo, hi => some (.lst (cutP ps lo hi))
  | _, _, _ => none
theorem vsf_list : VSF K (rSlL K) gSlL := by
  intro S H x p z lo hi Q s rx e k
  unfold gSlL at e
  split at e
  · cases e
    cases rx with
    | lst h1 h2 => exact ⟨_, _, rfl, .inl (.inl (s _ _ h1)), fun a n => k a _ n h2.cut⟩
  · cases e
def rSlU (K : PySem.W.Frag) : V → Option Int → Option Int → Hp → VK → Prop := fun x lo hi H Q => rSlL K x lo hi H Q ∨ rSlA K x lo hi H Q ∨ rSlS x lo hi H Q
theorem sl_U {X : Cx} : SlR X (rSlU X.K) := sl_list.or (sl_tupA.or sl_str)
theorem cut_all {α : Type} (xs : List α) (lo hi : Option Int) (h : HT.sIx xs.length 0 lo = 0 ∧ HT.sIx xs.length xs.length hi = xs.length) : cutP xs lo hi = xs := by
  unfold cutP
  rw [h.1, h.2]
  simp
theorem vs_U : VS K (rSlU K) gSl := by
  intro S H x p z lo hi Q s rx e k
  unfold gSl at e
  split at e
  · cases e
    cases rx with
    | lst h1 h2 => exact .inl ⟨_, _, rfl, .inl (.inl (s _ _ h1)), fun a n => k _ _ _ (own_new (z := .lst _) (o := .lst _) s n h2.cut).1 (own_new (z := .lst _) (o := .lst _) s n h2.cut).2⟩
  · cases e
    cases rx with
    | tup h1 h2 =>
      rename_i ps a vs
      refine .inr (.inl ⟨_, _, rfl, .inl (.inl (s _ _ h1)), fun hw => ?_, fun hw c n => ?_⟩)
      · rw [← h2.length] at hw
        rw [cut_all ps _ _ hw] at k
        exact k _ S H (Step.refl s) (.tup h1 h2)
      · refine k _ (upd S c (.tup (cutV vs lo hi))) _ (Step.new1 s n) ?_
        exact .tup upd_same (h2.cut.up (same_upd (Same.free s n)))
  · split at e
    · rename_i hz
      cases e
      cases rx
      exact .inr (.inr ⟨_, rfl, hz, k _ S H (Step.refl s) (.str _)⟩)
    · cases e
  · cases e
end
/-! a slice's parts -/
abbrev DenO := Env → Rs (Option Int)
def rO : RelT (Option Int) (Option Int) := fun _ _ _ _ _ a b => b = a
abbrev OOk (K : PySem.W.Frag) (mg : Str → Option Value) (W : WX) (t : TO) (d : DenO) : Prop := XOk K mg W rO t d
def oNone : DenO := fun ρ => .ok none ρ
def PV.int? : PV → Option Int
  | .int i => some i
  | _ => none
def oSome (da : Den) : DenO := fun ρ => (da ρ).bind fun p ρ1 => opt (p.int?.map some) ρ1
def dSl (g : PV → Option Int → Option Int → Option PV) (da : Den) (dl dh : DenO) : Den := fun ρ => (da ρ).bind fun p ρ1 => (dl ρ1).bind fun l ρ2 => (dh ρ2).bind fun h ρ3 => opt (g p l h) ρ3
/-- a slice of a slot that is only looked at: lists and texts -/
def dSlv (g : PV → Option Int → Option Int → Option PV) (i : Nat) (dl dh : DenO) : Den := fun ρ => match slot ρ i with
  | none => .bad
  | some _ => (dl ρ).bind fun l ρ2 => (dh ρ2).bind fun h ρ3 => match slot ρ3 i with
    | none => .bad
    | some p => opt (g p l h) ρ3
section
variable {K : PySem.W.Frag} {mg : Str → Option Value} {W : WX}
theorem oo_none : OOk K mg W tNoPart oNone := fun H₀ S₀ M S σ H ρ Q ab hp => hp none S H ab rfl
theorem oo_some {te : TE} {da : Den} (ha : EOk K mg W te da) : OOk K mg W (tPart te) (oSome da) := fun H₀ S₀ M S σ H ρ Q ab hp =>
  ha.bind (Rl' := rO) ab hp fun p ρ1 v S1 H1 _ a1 _ r1 hp => by
    cases p with
    | int i =>
      cases r1
      exact ⟨i, rfl, hp (some i) S1 H1 a1 rfl⟩
    | _ => exact hp.elim
theorem eo_sl {te : TE} {da : Den} {tl th : TO} {dl dh : DenO} {r : V → Option Int → Option Int → Hp → VK → Prop} {g : PV → Option Int → Option Int → Option PV} (ha : EOk K mg W te da) (hl : OOk K mg W tl dl) (hh : OOk K mg W th dh) (hr : VS K r g) : EOk K mg W (tSl r te tl th) (dSl g da dl dh) := fun H₀ S₀ M S σ H ρ Q ab hp =>
  ha.bind (Rl' := rV K) ab hp fun p ρ1 v S1 H1 _ a1 _ r1 hp => hl.bind (Rl' := rV K) a1 hp fun l ρ2 l' S2 H2 _ a2 s2 r2 hp => hh.bind (Rl' := rV K) a2 hp fun h ρ3 h' S3 H3 _ a3 s3 r3 hp => by
    cases r2; cases r3
    cases e : g p l h with
    | none => rw [e] at hp; exact hp.elim
    | some z =>
      rw [e] at hp
      exact hr S3 H3 v p z l h Q a3.sub (r1.up (s2.trans s3)) e fun v' S4 H4 st rz => hp v' S4 H4 (a3.step st) rz
theorem fo_sl {te : TE} {da : Den} {tl th : TO} {dl dh : DenO} {r : V → Option Int → Option Int → Hp → VK → Prop} {g : PV → Option Int → Option Int → Option PV} (ha : EOk K mg W te da) (hl : OOk K mg W tl dl) (hh : OOk K mg W th dh) (hr : VSF K r g) : FOk K mg W (tSl r te tl th) (dSl g da dl dh) := fun H₀ S₀ M S σ H ρ Q ab hp =>
  ha.bind (Rl' := rF K) ab hp fun p ρ1 v S1 H1 _ a1 _ r1 hp => hl.bind (Rl' := rF K) a1 hp fun l ρ2 l' S2 H2 _ a2 s2 r2 hp => hh.bind (Rl' := rF K) a2 hp fun h ρ3 h' S3 H3 _ a3 s3 r3 hp => by
    cases r2; cases r3
    cases e : g p l h with
    | none => rw [e] at hp; exact hp.elim
    | some z =>
      rw [e] at hp
      exact hr S3 H3 v p z l h Q a3.sub (r1.up (s2.trans s3)) e fun a o n w => hp _ S3 _ (a3.fresh n w).1 (a3.fresh n w).2
/-- the items of an owned list are shared -/
theorem own_lst {S : Hp} {ps : List PV} {o : HO} (w : OwnO K S (.lst ps) o) : ∃ vs, o = .lst vs ∧ RepL K S ps vs := by
  cases o with
  | lst vs => exact ⟨vs, rfl, w⟩
  | _ => exact w.elim
/-- what a slot holds, as a list (or a shared value) -/
theorem Abs.lookL {H₀ S₀ : Hp} {M : Addr → Prop} {S H : Hp} {σ : St} {ρ : Env} {i : Nat} {p : PV} (a : Abs K H₀ S₀ M S σ H ρ) (e : slot ρ i = some p) :
    ∃ v, σ[i]? = some (some v) ∧ (Rep K S p v ∨ ∃ b o, v = .ref b ∧ S b = none ∧ H b = some o ∧ OwnO K S p o) := by
  unfold slot at e
  cases e1 : ρ[i]? with
  | none => rw [e1] at e; cases e
  | some s =>
    rw [e1] at e
    cases s with
    | un => cases e
    | sh q =>
      cases e
      obtain ⟨v, h1, h2⟩ := a.sh i _ e1
      exact ⟨v, h1, .inl h2⟩
    | ow q =>
      cases e
      obtain ⟨b, o, h1, h2, h3, h4, h5, h6⟩ := a.own i _ _ e1 rfl
      exact ⟨_, h1, .inr ⟨b, o, rfl, h4, h5, h6⟩⟩
    | io q =>
      cases e
      obtain ⟨b, o, h1, h2, h3, h4, h5, h6⟩ := a.own i _ _ e1 rfl
      exact ⟨_, h1, .inr ⟨b, o, rfl, h4, h5, h6⟩⟩
/-- an item of a slot that is only looked at -/
theorem eo_ixv {i : Nat} {tb : TE} {db : Den} (hb : EOk K mg W tb db) : EOk K mg W (tOp (rIx K) (tVar i) tb) (d2l gIx i db) := by
  intro H₀ S₀ M S σ H ρ Q ab hp
  unfold d2l at hp
  cases e0 : slot ρ i with
  | none => rw [e0] at hp; exact hp.elim
  | some p0 =>
    rw [e0] at hp
    obtain ⟨v, _, hv, _⟩ := ab.look e0
    refine ⟨v, hv, ?_⟩
    refine hb.bind (Rl' := rV K) ab hp fun q ρ1 u S1 H1 _ a1 _ r1 hp => ?_
    cases e1 : slot ρ1 i with
    | none => rw [e1] at hp; exact hp.elim
    | some p =>
      rw [e1] at hp
      obtain ⟨v', hv', h⟩ := a1.lookL e1
      rw [hv] at hv'
      cases hv'
      cases e : gIx p q with
      | none => simp only [e] at hp; exact hp.elim
      | some z =>
        simp only [e] at hp
        rcases h with h | ⟨b, o, rfl, h2, h3, h4⟩
        · exact v2_ix S1 H1 v u p q z Q a1.sub h r1 e fun v' S3 H3 st rz => hp v' S3 H3 (a1.step st) rz
        · cases p with
          | lst ps =>
            obtain ⟨vs, rfl, h5⟩ := own_lst h4
            cases q with
            | int k =>
              cases r1
              obtain ⟨w, h6, h7⟩ := h5.atI (show L2.atI ps k = some z from e)
              exact .inl ⟨_, _, _, _, rfl, rfl, .inl (.inl h3), h6, hp _ S1 H1 a1 h7⟩
            | _ => cases e
          | dic t ks ps => cases e
          | _ => exact h4.elim
/-- a new list cut out of a slot that is only looked at -/
theorem fo_slv {i : Nat} {tl th : TO} {dl dh : DenO} (hl : OOk K mg W tl dl) (hh : OOk K mg W th dh) : FOk K mg W (tSl (rSlL K) (tVar i) tl th) (dSlv gSlL i dl dh) := by
  intro H₀ S₀ M S σ H ρ Q ab hp
  unfold dSlv at hp
  cases e0 : slot ρ i with
  | none => rw [e0] at hp; exact hp.elim
  | some p0 =>
    rw [e0] at hp
    obtain ⟨v, _, hv, _⟩ := ab.look e0
    refine ⟨v, hv, ?_⟩
    refine hl.bind (Rl' := rF K) ab hp fun l ρ2 l' S2 H2 _ a2 s2 r2 hp => hh.bind (Rl' := rF K) a2 hp fun h ρ3 h' S3 H3 _ a3 s3 r3 hp => ?_
    cases r2; cases r3
    cases e1 : slot ρ3 i with
    | none => rw [e1] at hp; exact hp.elim
    | some p =>
      rw [e1] at hp
      obtain ⟨v', hv', hL⟩ := a3.lookL e1
      rw [hv] at hv'
      cases hv'
      cases p with
      | lst ps =>
        have hp : Post K mg W (rF K) H₀ S₀ M σ (.ok (.lst (cutP ps l h)) ρ3) Q := hp
        rcases hL with hL | ⟨b, o, rfl, h2, h3, h4⟩
        · cases hL with
          | lst h1 h2 => exact ⟨_, _, rfl, .inl (.inl (a3.sub _ _ h1)), fun c n => hp _ S3 _ (a3.fresh n (p := .lst _) (o := .lst _) h2.cut).1 (a3.fresh n (p := .lst _) (o := .lst _) h2.cut).2⟩
        · obtain ⟨vs, rfl, h5⟩ := own_lst h4
          exact ⟨_, _, rfl, .inl (.inl h3), fun c n => hp _ S3 _ (a3.fresh n (p := .lst _) (o := .lst _) h5.cut).1 (a3.fresh n (p := .lst _) (o := .lst _) h5.cut).2⟩
      | _ => exact hp.elim
end
/-! ### built-in functions -/
section
variable {K : PySem.W.Frag}
def gLenN : List PV → Option PV
  | [p] => gLen p
  | _ => none
theorem vn_len : VN K (fun xs H Q => ∃ x n, xs = [x] ∧ LenV K x H n ∧ Q (.int n) H) gLenN := by
  intro S H xs ps z Q s rx e k
  unfold gLenN at e
  split at e
  · rename_i p
    cases rx with
    | cons r1 r2 =>
      cases r2
      unfold gLen at e
      split at e
      · cases r1 with
        | lst h1 h2 =>
          cases e
          refine ⟨_, _, rfl, .inl ⟨_, .inl (.inl (s _ _ h1)), rfl⟩, ?_⟩
          rw [← h2.length]
          exact k _ S H (Step.refl s) (.int _)
      · cases r1 with
        | tup h1 h2 =>
          cases e
          refine ⟨_, _, rfl, .inr ⟨_, .inl (.inl (s _ _ h1)), rfl⟩, ?_⟩
          rw [← h2.length]
          exact k _ S H (Step.refl s) (.int _)
      · cases r1 with
        | ktup h1 h2 =>
          cases e
          refine ⟨_, _, rfl, .inr ⟨_, Same.tupK s h1, rfl⟩, ?_⟩
          rw [← h2.length]
          exact k _ S H (Step.refl s) (.int _)
      · cases r1 with
        | klst h1 h2 =>
          cases e
          refine ⟨_, _, rfl, .inl ⟨_, Same.lstK s h1, rfl⟩, ?_⟩
          rw [← h2.length]
          exact k _ S H (Step.refl s) (.int _)
      · split at e
        · rename_i hz
          cases e
          cases r1
          exact ⟨_, _, rfl, ⟨hz, rfl⟩, k _ S H (Step.refl s) (.int _)⟩
        · cases e
      · cases e
  · cases e
theorem len_sc : ∀ p z, gLenN [p] = some z → z.sc = true := by
  intro p z e
  cases p with
  | lst ps => cases e; rfl
  | tup ps => cases e; rfl
  | ktup ps => cases e; rfl
  | klst ps => cases e; rfl
  | str x =>
    have e : (if x.length ≤ sizeLine then some (PV.int x.length) else none) = some z := e
    split at e
    · cases e; rfl
    · cases e
  | _ => cases e
def gAbs : List PV → Option PV
  | [.int i] => some (.int (if i < 0 then -i else i))
  | _ => none
theorem vn_abs : VN K (fun xs H Q => ∃ i, xs = [.int i] ∧ Q (.int (if i < 0 then -i else i)) H) gAbs := by
  intro S H xs ps z Q s rx e k
  unfold gAbs at e
  split at e
  · cases rx with
    | cons r1 r2 =>
      cases r2; cases r1; cases e
      exact ⟨_, rfl, k _ S H (Step.refl s) (.int _)⟩
  · cases e
def gMax2 : List PV → Option PV
  | [.int i, .int j] => some (.int (if j > i then j else i))
  | _ => none
def gMin2 : List PV → Option PV
  | [.int i, .int j] => some (.int (if j < i then j else i))
  | _ => none
theorem vn_max2 : VN K (fun xs H Q => ∃ i j, xs = [.int i, .int j] ∧ Q (.int (if j > i then j else i)) H) gMax2 := by
  intro S H xs ps z Q s rx e k
  unfold gMax2 at e
  split at e
  · cases rx with
    | cons r1 r2 =>
      cases r2 with
      | cons r3 r4 =>
        cases r4; cases r1; cases r3; cases e
        exact ⟨_, _, rfl, k _ S H (Step.refl s) (.int _)⟩
  · cases e
theorem vn_min2 : VN K (fun xs H Q => ∃ i j, xs = [.int i, .int j] ∧ Q (.int (if j < i then j else i)) H) gMin2 := by
  intro S H xs ps z Q s rx e k
  unfold gMin2 at e
  split at e
  · cases rx with
    | cons r1 r2 =>
      cases r2 with
      | cons r3 r4 =>
        cases r4; cases r1; cases r3; cases e
        exact ⟨_, _, rfl, k _ S H (Step.refl s) (.int _)⟩
  · cases e
def gInt : List PV → Option PV
  | [.int i] => some (.int i)
  | [.bl b] => some (.int (if b then 1 else 0))
  | [.str a] => if a.length ≤ 640 then (PySem.intText? a).map .int else none
  | _ => none
def rIntU : List V → Hp → VK → Prop := fun xs H Q => ((∃ i, xs = [.int i] ∧ Q (.int i) H) ∨ ∃ k, xs = [.bl k] ∧ Q (.int (if k then 1 else 0)) H) ∨ ∃ a n, xs = [.str a] ∧ PySem.intText? a = some n ∧ a.length ≤ 640 ∧ Q (.int n) H
theorem CallR.or {X : Cx} {f : Value} {r r' : List V → Hp → VK → Prop} (h : CallR X f r) (h' : CallR X f r') : CallR X f (fun xs H Q => r xs H Q ∨ r' xs H Q) := by
  intro pins s σ H vs us Q I r q
  rcases q with q | q
  · exact h pins s σ H vs us Q I r q
  · exact h' pins s σ H vs us Q I r q
theorem call_intU {X : Cx} : CallR X (.type "int") rIntU := CallR.or call_int1 call_int_str
theorem vn_int : VN K rIntU gInt := by
  intro S H xs ps z Q s rx e k
  unfold gInt at e
  split at e
  · cases rx with
    | cons r1 r2 =>
      cases r2; cases r1; cases e
      exact .inl (.inl ⟨_, rfl, k _ S H (Step.refl s) (.int _)⟩)
  · cases rx with
    | cons r1 r2 =>
      cases r2; cases r1; cases e
      exact .inl (.inr ⟨_, rfl, k _ S H (Step.refl s) (.int _)⟩)
  · cases rx with
    | cons r1 r2 =>
      cases r2; cases r1
      rename_i a
      split at e
      · rename_i hz
        cases h : PySem.intText? a with
        | none => rw [h] at e; cases e
        | some n =>
          rw [h] at e
          cases e
          exact .inr ⟨_, _, rfl, h, hz, k _ S H (Step.refl s) (.int _)⟩
      · cases e
  · cases e
def gSumN : List PV → Option PV
  | [.lst ps] => (ints? ps).map fun ns => .int ns.sum
  | _ => none
theorem vn_sum : VN K (rSum K) gSumN := by
  intro S H xs ps z Q s rx e k
  unfold gSumN at e
  split at e
  · rename_i ps
    cases rx with
    | cons r1 r2 =>
      cases r2
      cases r1 with
      | lst h1 h2 =>
        cases h : ints? ps with
        | none => rw [h] at e; cases e
        | some ns =>
          rw [h] at e
          cases e
          rw [h2.ints h] at h1
          exact ⟨_, _, rfl, .inl (.inl (s _ _ h1)), k _ S H (Step.refl s) (.int _)⟩
  · cases e
/-! ### what changes a list -/
def gAppend : PV → List PV → Option (PV × PV)
  | .lst ps, [p] => if ps.length < sizeLine then some (.lst (ps ++ [p]), .non) else none
  | _, _ => none
theorem mu_append : MutOk K rAppend gAppend := by
  intro S H b o p q z ps vs Q s sb hb w r e k
  unfold gAppend at e
  split at e
  · rename_i xs p1
    split at e
    · rename_i hz
      cases e
      obtain ⟨us, rfl, h5⟩ := own_lst w
      cases r with
      | cons r1 r2 =>
        cases r2
        exact ⟨_, _, _, rfl, rfl, hb, by rw [← h5.length]; exact hz, k _ _ (h5.append (.cons r1 .nil)) .non⟩
    · cases e
  · cases e
def gPop : PV → List PV → Option (PV × PV)
  | .lst ps, [] => (ps[ps.length - 1]?).map fun p => (.lst ps.dropLast, p)
  | _, _ => none
theorem mu_pop : MutOk K rPop gPop := by
  intro S H b o p q z ps vs Q s sb hb w r e k
  unfold gPop at e
  split at e
  · rename_i xs
    cases h : xs[xs.length - 1]? with
    | none => rw [h] at e; cases e
    | some p1 =>
      rw [h] at e
      cases e
      obtain ⟨us, rfl, h5⟩ := own_lst w
      cases r
      obtain ⟨v, h6, h7⟩ := h5.get h
      rw [h5.length] at h6
      exact ⟨_, _, _, rfl, rfl, hb, h6, k _ _ h5.dropLast h7⟩
  · cases e
def gPopAt : PV → List PV → Option (PV × PV)
  | .lst ps, [.int i] => if decide (-(2 ^ 63) ≤ i) && decide (i < 2 ^ 63) then (seqIndex? i ps.length).bind fun j => (ps[j]?).map fun p => (.lst (ps.eraseIdx j), p) else none
  | _, _ => none
theorem mu_popAt : MutOk K rPopAt gPopAt := by
  intro S H b o p q z ps vs Q s sb hb w r e k
  unfold gPopAt at e
  split at e
  · rename_i xs i
    split at e
    · rename_i hz
      simp only [Bool.and_eq_true, decide_eq_true_eq] at hz
      cases hj : seqIndex? i xs.length with
      | none => rw [hj] at e; cases e
      | some j =>
        rw [hj] at e
        have e : (xs[j]?).map (fun p => (PV.lst (xs.eraseIdx j), p)) = some (q, z) := e
        cases h : xs[j]? with
        | none => rw [h] at e; cases e
        | some p1 =>
          rw [h] at e
          cases e
          obtain ⟨us, rfl, h5⟩ := own_lst w
          cases r with
          | cons r1 r2 =>
            cases r2; cases r1
            obtain ⟨v, h6, h7⟩ := h5.get h
            rw [h5.length] at hj
            exact ⟨_, _, _, _, _, rfl, rfl, hb, hz.1, hz.2, hj, h6, k _ _ (h5.eraseIdx j) h7⟩
    · cases e
  · cases e
def gReverse : PV → List PV → Option (PV × PV)
  | .lst ps, [] => some (.lst ps.reverse, .non)
  | _, _ => none
theorem mu_reverse : MutOk K rReverse gReverse := by
  intro S H b o p q z ps vs Q s sb hb w r e k
  unfold gReverse at e
  split at e
  · cases e
    obtain ⟨us, rfl, h5⟩ := own_lst w
    cases r
    exact ⟨_, _, rfl, rfl, hb, k _ _ h5.reverse .non⟩
  · cases e
def gExtend : PV → List PV → Option (PV × PV)
  | .lst ps, [.lst qs] => if ps.length + qs.length ≤ sizeLine then some (.lst (ps ++ qs), .non) else none
  | _, _ => none
theorem mu_extend : MutOk K rExtend gExtend := by
  intro S H b o p q z ps vs Q s sb hb w r e k
  unfold gExtend at e
  split at e
  · split at e
    · rename_i hz
      cases e
      obtain ⟨us, rfl, h5⟩ := own_lst w
      cases r with
      | cons r1 r2 =>
        cases r2
        cases r1 with
        | lst h1 h2 =>
          refine ⟨_, _, _, _, rfl, rfl, hb, s _ _ h1, ?_, k _ _ (h5.append h2) .non⟩
          rw [← h5.length, ← h2.length]
          exact hz
    · cases e
  · cases e
def gSetL : PV → PV → PV → Option PV
  | .lst ps, .int i, e => (ixN ps.length i).map fun j => .lst (ps.set j e)
  | _, _, _ => none
theorem st_list : SetOk K rSetL gSetL := by
  intro S H b o p i e q x y Q s sb hb w rx ry e1 k
  cases p with
  | lst ps =>
    cases i with
    | int n =>
      have e1 : (ixN ps.length n).map (fun j => PV.lst (ps.set j e)) = some q := e1
      cases hj : ixN ps.length n with
      | none => rw [hj] at e1; cases e1
      | some j =>
        rw [hj] at e1
        cases e1
        obtain ⟨us, rfl, h5⟩ := own_lst w
        cases rx
        rw [h5.length] at hj
        exact ⟨_, _, _, _, rfl, rfl, hb, hj, k _ (h5.set ry j)⟩
    | _ => cases e1
  | _ => cases i <;> cases e1
end
end PL

set_option Elab.async false
set_option linter.all false
set_option maxRecDepth 100000
set_option maxHeartbeats 4000000
namespace PL
open PySem PySem.Spec L2
set_option autoImplicit false

/-! ### pieces of syntax and what they are worth -/
def canon {α β : Type} (K : PySem.W.Frag) (mg : Str → Option Value) (W : WX) (Rl : RelT α β) (d : Env → Rs α) : St → Hp → (β → Hp → Prop) → Prop := fun σ H Q =>
  ∃ H₀ S₀ M S ρ, Abs K H₀ S₀ M S σ H ρ ∧ Post K mg W Rl H₀ S₀ M σ (d ρ) Q
theorem canon_ok {α β : Type} {K : PySem.W.Frag} {mg : Str → Option Value} {W : WX} {Rl : RelT α β} {d : Env → Rs α} : XOk K mg W Rl (canon K mg W Rl d) d := fun H₀ S₀ M S σ H ρ Q ab hp => ⟨H₀, S₀, M, S, ρ, ab, hp⟩
theorem canon_to {α β : Type} {K : PySem.W.Frag} {mg : Str → Option Value} {W : WX} {Rl : RelT α β} {d : Env → Rs α} {t : St → Hp → (β → Hp → Prop) → Prop} (h : XOk K mg W Rl t d) {σ : St} {H : Hp} {Q : β → Hp → Prop} (q : canon K mg W Rl d σ H Q) : t σ H Q := by
  obtain ⟨H₀, S₀, M, S, ρ, ab, hp⟩ := q
  exact h H₀ S₀ M S σ H ρ Q ab hp
def canonS (K : PySem.W.Frag) (mg : Str → Option Value) (W : WX) (fr : Bool) (d : DenS) : TS := fun D σ H => ∃ H₀ S₀ M S ρ, Abs K H₀ S₀ M S σ H ρ ∧ SPost K mg W fr H₀ S₀ M (d ρ) D
theorem canonS_ok {K : PySem.W.Frag} {mg : Str → Option Value} {W : WX} {fr : Bool} {d : DenS} : SOk K mg W fr (canonS K mg W fr d) d := fun H₀ S₀ M S σ H ρ D ab hp => ⟨H₀, S₀, M, S, ρ, ab, hp⟩
theorem canonS_to {K : PySem.W.Frag} {mg : Str → Option Value} {W : WX} {fr : Bool} {d : DenS} {t : TS} (h : SOk K mg W fr t d) {D : Ends} {σ : St} {H : Hp} (q : canonS K mg W fr d D σ H) : t D σ H := by
  obtain ⟨H₀, S₀, M, S, ρ, ab, hp⟩ := q
  exact h H₀ S₀ M S σ H ρ D ab hp
/-- an expression, shared; a fresh object; a test; and, or; arguments; a part of a slice; what is walked; statements -/
abbrev DE (X : Cx) (W : WX) (e : Expr) (d : Den) : Prop := PE X e (canon X.K X.mg W (rV X.K) d)
abbrev DF (X : Cx) (W : WX) (e : Expr) (d : Den) : Prop := PE X e (canon X.K X.mg W (rF X.K) d)
abbrev DT (X : Cx) (W : WX) (e : Expr) (d : DenB) : Prop := PT X e (canon X.K X.mg W rB d)
abbrev DW (X : Cx) (W : WX) (e : Expr) (d : DenB) : Prop := PW X e (canon X.K X.mg W rB d)
abbrev DA (X : Cx) (W : WX) (es : List Expr) (d : DenL) : Prop := PA X es (canon X.K X.mg W (rL X.K) d)
abbrev DO (X : Cx) (W : WX) (e : Option Expr) (d : DenO) : Prop := PO X e (canon X.K X.mg W rO d)
abbrev DI (X : Cx) (W : WX) (tg e : Expr) (d : DenL) : Prop := PI X tg e (canon X.K X.mg W (rIt X.K) d)
abbrev DTs (X : Cx) (W : WX) (es : List Expr) (d : DenB) : Prop := PTs X es (canon X.K X.mg W rB d)
abbrev DS (X : Cx) (W : WX) (fr : Bool) (st : Stmt) (d : DenS) : Prop := PS X st (canonS X.K X.mg W fr d)
abbrev DSs (X : Cx) (W : WX) (fr : Bool) (st : List Stmt) (d : DenS) : Prop := PSs X st (canonS X.K X.mg W fr d)
section
variable {X : Cx} {W : WX} {fr : Bool}
theorem DE.of {e : Expr} {t : TE} {d : Den} (h : PE X e t) (k : EOk X.K X.mg W t d) : DE X W e d := ⟨fun pins s σ H Q I q => h.run pins s σ H Q I (canon_to k q)⟩
theorem DF.of {e : Expr} {t : TE} {d : Den} (h : PE X e t) (k : FOk X.K X.mg W t d) : DF X W e d := ⟨fun pins s σ H Q I q => h.run pins s σ H Q I (canon_to k q)⟩
theorem DT.of {e : Expr} {t : TT} {d : DenB} (h : PT X e t) (k : TOk X.K X.mg W t d) : DT X W e d := ⟨fun pins s σ H Q I q => h.run pins s σ H Q I (canon_to k q)⟩
theorem DW.of {e : Expr} {t : TT} {d : DenB} (h : PW X e t) (k : TOk X.K X.mg W t d) : DW X W e d := ⟨fun wh pins s σ H Q I q => h.run wh pins s σ H Q I (canon_to k q)⟩
theorem DA.of {es : List Expr} {t : TA} {d : DenL} (h : PA X es t) (k : AOk X.K X.mg W t d) : DA X W es d := ⟨fun pos pins s σ H Q I q => h.run pos pins s σ H Q I (canon_to k q)⟩
theorem DO.of {e : Option Expr} {t : TO} {d : DenO} (h : PO X e t) (k : OOk X.K X.mg W t d) : DO X W e d := ⟨fun pins s σ H Q I q => h.run pins s σ H Q I (canon_to k q)⟩
theorem DI.of {tg e : Expr} {t : TI} {d : DenL} (h : PI X tg e t) (k : IOk X.K X.mg W t d) : DI X W tg e d := ⟨fun pins s σ H R I q => h.run pins s σ H R I (canon_to k q)⟩
theorem DTs.of {es : List Expr} {t : TT} {d : DenB} (h : PTs X es t) (k : TOk X.K X.mg W t d) : DTs X W es d := ⟨fun pins s σ H Q I q => h.run pins s σ H Q I (canon_to k q)⟩
theorem DS.of {st : Stmt} {t : TS} {d : DenS} (h : PS X st t) (k : SOk X.K X.mg W fr t d) : DS X W fr st d := ⟨fun pins s σ H D I q => h.run pins s σ H D I (canonS_to k q)⟩
theorem DSs.of {st : List Stmt} {t : TS} {d : DenS} (h : PSs X st t) (k : SOk X.K X.mg W fr t d) : DSs X W fr st d := ⟨fun pins s σ H D I q => h.run pins s σ H D I (canonS_to k q)⟩
theorem DF.sh {e : Expr} {d : Den} (h : DF X W e d) : DE X W e d := DE.of h canon_ok.shared
end

/-- what a body's context grants -/
structure Ctx (X : Cx) (W : WX) (k : Nat) : Prop where
  calm : X.calm = true
  nd : X.N.Nodup
  room : Room k X.A
  tk : Takes X W
theorem Ctx.blk {X : Cx} {W : WX} {k : Nat} (c : Ctx X W k) {s : Shared} {H : Hp} {scope : Scope} {env : PySem.Env} {fp : List Addr} : Ctx (X.blk s H scope env fp) (fun _ _ _ _ => False) k := ⟨c.calm, c.nd, c.room, takes0⟩
theorem Ctx.hu {X : Cx} {W : WX} {k : Nat} (c : Ctx X W k) : X.A.units + 64 < cLine := c.room.units
theorem Ctx.hu1 {X : Cx} {W : WX} {k : Nat} (c : Ctx X W k) : X.A.units + 65 < cLine := by have := c.room.un; omega

/-- the built-in names are the built-ins -/
structure Bi (mg : Str → Option Value) : Prop where
  len : mg "len" = none
  abs : mg "abs" = none
  max : mg "max" = none
  min : mg "min" = none
  int : mg "int" = none
  sum : mg "sum" = none
  range : mg "range" = none
  list : mg "list" = none
  tuple : mg "tuple" = none
  sorted : mg "sorted" = none
  set : mg "set" = none
  zip : mg "zip" = none
  enumerate : mg "enumerate" = none
  reversed : mg "reversed" = none
  isinstance : mg "isinstance" = none
  str : mg "str" = none
  bool : mg "bool" = none
  dict : mg "dict" = none
  any : mg "any" = none
  all : mg "all" = none

section
variable {X : Cx} {W : WX} {fr : Bool} {k : Nat} {pos p p2 p3 apos cpos np : Pos} {e a b : Expr} {es rest : List Expr} {da db dc : Den} {dt du : DenB} {dl : DenL} {x : Str}
/-! ### expressions -/
theorem de_var (i : Nat) (hN : X.N[i]? = some x := by rfl) (hv : Vis X.env.scope x := by first | exact Or.inl rfl | exact Or.inr (Or.inl rfl) | exact Or.inr (Or.inr rfl)) (hd : (x == ("__debug__" : Str)) = false := by decide)
    (hcd : (x == ("__classdict__" : Str)) = false := by decide) : DE X W (.Name x pos) (dVar i) := DE.of (pe_var hN hv hd hcd) eo_var
theorem de_int {i : Int} {j : Nat} : DE X W (.Constant (.int i) j pos) (dC (.int i)) := DE.of pe_int (eo_c fun _ => .int i)
theorem de_bl {i : Bool} {j : Nat} : DE X W (.Constant (.bool i) j pos) (dC (.bl i)) := DE.of pe_bl (eo_c fun _ => .bl i)
theorem de_non {j : Nat} : DE X W (.Constant .none j pos) (dC .non) := DE.of pe_non (eo_c fun _ => .non)
theorem de_str {i : Str} {j : Nat} : DE X W (.Constant (.str i) j pos) (dC (.str i)) := DE.of pe_str (eo_c fun _ => .str i)
/-- a constant of the module -/
theorem de_glob {v : V} {q : PV} {u : Value} (hm : X.mg x = some u) (r : RelV v u) (h : ∀ S, Rep X.K S q v) (hg : Gl X x := by rfl) (hd : (x == ("__debug__" : Str)) = false := by decide) : DE X W (.Name x pos) (dC q) := DE.of (pe_glob hg hm r hd) (eo_c h)
theorem de_op {op : Operator} {r : R2} {g : PV → PV → Option PV} (ho : OpR X (binaryOp op) r) (hv : V2 X.K r g) (ha : DE X W a da) (hb : DE X W b db) : DE X W (.BinOp a op b pos) (d2 g da db) := DE.of (pe_op ho ha hb) (eo_2 canon_ok canon_ok hv)
theorem df_op {op : Operator} {r : R2} {g : PV → PV → Option PV} (ho : OpR X (binaryOp op) r) (hv : V2F X.K r g) (ha : DE X W a da) (hb : DE X W b db) : DF X W (.BinOp a op b pos) (d2 g da db) := DF.of (pe_op ho ha hb) (fo_2 canon_ok canon_ok hv)
abbrev dAdd := d2 gAdd
abbrev dSub := d2 gSub
abbrev dMul := d2 gMul
abbrev dFdiv := d2 gFdiv
abbrev dMod := d2 gMod
abbrev dPow := d2 gPow
abbrev dNeg := d1 gNeg
theorem de_add (ha : DE X W a da) (hb : DE X W b db) : DE X W (.BinOp a .Add b pos) (dAdd da db) := de_op op_addU v2_add ha hb
theorem de_sub (ha : DE X W a da) (hb : DE X W b db) : DE X W (.BinOp a .Sub b pos) (dSub da db) := de_op op_sub v2_sub ha hb
theorem de_mul (ha : DE X W a da) (hb : DE X W b db) : DE X W (.BinOp a .Mult b pos) (dMul da db) := de_op op_mulU v2_mul ha hb
theorem de_fdiv (ha : DE X W a da) (hb : DE X W b db) : DE X W (.BinOp a .FloorDiv b pos) (dFdiv da db) := de_op op_fdiv v2_fdiv ha hb
theorem de_mod (ha : DE X W a da) (hb : DE X W b db) : DE X W (.BinOp a .Mod b pos) (dMod da db) := de_op op_mod v2_mod ha hb
theorem de_pow (ha : DE X W a da) (hb : DE X W b db) : DE X W (.BinOp a .Pow b pos) (dPow da db) := de_op op_pow v2_pow ha hb
theorem df_cat (ha : DE X W a da) (hb : DE X W b db) : DF X W (.BinOp a .Add b pos) (d2 gCat da db) := df_op op_cat v2_cat ha hb
theorem df_rep (ha : DE X W a da) (hb : DE X W b db) : DF X W (.BinOp a .Mult b pos) (d2 gRep da db) := df_op op_rep v2_rep ha hb
theorem de_neg (ha : DE X W a da) : DE X W (.UnaryOp .USub a pos) (dNeg da) := DE.of (pe_un un_neg ha) (eo_1 canon_ok v1_neg)
/-! comparisons: by the operator's rule; as values and as tests -/
structure CmpR (X : Cx) (op : CmpOp) (r : R2) (g : PV → PV → Option PV) : Prop where
  op : OpR X (compareOp op) r
  v : V2 X.K r g
  sc : ∀ p q z, g p q = some z → z.sc = true
theorem sc_cmp {f : Int → Int → Bool} : ∀ p q z, gCmpI f p q = some z → z.sc = true := by
  intro p q z e
  unfold gCmpI at e
  split at e
  · cases e; rfl
  · cases e
theorem cr_lt : CmpR X .Lt (rI0 fun i j => .bl (decide (i < j))) gLt := ⟨op_lt, v2_cmp, sc_cmp⟩
theorem cr_le : CmpR X .LtE (rI0 fun i j => .bl (decide (i ≤ j))) gLe := ⟨op_le, v2_cmp, sc_cmp⟩
theorem cr_gt : CmpR X .Gt (rI0 fun i j => .bl (decide (j < i))) gGt := ⟨op_gt, v2_cmp, sc_cmp⟩
theorem cr_ge : CmpR X .GtE (rI0 fun i j => .bl (decide (j ≤ i))) gGe := ⟨op_ge, v2_cmp, sc_cmp⟩
theorem cr_eq (c : Ctx X W k) : CmpR X .Eq (rEqD X.K) gEq := ⟨op_eqD c.hu, v2_eq, by
  intro p q z e
  unfold gEq at e
  split at e
  · cases e; rfl
  · cases e⟩
theorem cr_ne (c : Ctx X W k) : CmpR X .NotEq (rNeD X.K) gNe := ⟨op_neD c.hu, v2_ne, by
  intro p q z e
  unfold gNe at e
  split at e
  · cases e; rfl
  · cases e⟩
theorem gIn_sc {neg : Bool} : ∀ p q z, gIn neg p q = some z → z.sc = true := by
  intro p q z e
  unfold gIn at e
  split at e
  · rename_i x y
    cases h : sgn1 x with
    | none => rw [h] at e; cases e
    | some c => rw [h] at e; cases e; rfl
  · split at e
    · cases e; rfl
    · cases e
  · cases e
theorem cr_in (c : Ctx X W k) : CmpR X .In (rInU X.K) (gIn false) := ⟨OpR.or op_in_sign (op_inD c.hu1), v2_in, gIn_sc⟩
theorem cr_notIn (c : Ctx X W k) : CmpR X .NotIn (rNotInU X.K) (gIn true) := ⟨OpR.or op_notIn_sign (op_notInD c.hu1), v2_notIn, gIn_sc⟩
theorem gIsN_sc {neg : Bool} : ∀ p q z, gIsN neg p q = some z → z.sc = true := by
  intro p q z e
  cases q <;> cases p <;> simp [gIsN] at e <;> subst e <;> rfl
theorem cr_is : CmpR X .Is (fun x y H Q => y = .non ∧ Q (.bl (decide (x = .non))) H) (gIsN false) := ⟨op_isN, v2_isN, gIsN_sc⟩
theorem cr_isNot : CmpR X .IsNot (fun x y H Q => y = .non ∧ Q (.bl (!decide (x = .non))) H) (gIsN true) := ⟨op_notN, v2_notN, gIsN_sc⟩
section
variable {op op' : CmpOp} {r r' : R2} {g g' : PV → PV → Option PV}
theorem de_cmp (h : CmpR X op r g) (ha : DE X W a da) (hb : DE X W b db) (hm : behindInMarks op b = false := by rfl) : DE X W (.Compare a [op] [b] pos) (d2 g da db) := DE.of (pe_cmpR h.op ha hb hm) (eo_2 canon_ok canon_ok h.v)
theorem dt_cmp (h : CmpR X op r g) (ha : DE X W a da) (hb : DE X W b db) (hm : behindInMarks op b = false := by rfl) : DT X W (.Compare a [op] [b] pos) (bVal (d2 g da db)) := DT.of (pt_cmpR h.op ha hb hm) (to_val (eo_2 canon_ok canon_ok h.v))
theorem de_cmpl (h : CmpR X op r g) (i : Nat) (ha : PE X (.Name x p) (tVar i)) (hb : DE X W b db) (hm : behindInMarks op b = false := by rfl) : DE X W (.Compare (.Name x p) [op] [b] pos) (d2l g i db) := DE.of (pe_cmpR h.op ha hb hm) (eo_2l canon_ok h.v h.sc)
theorem dt_cmpl (h : CmpR X op r g) (i : Nat) (ha : PE X (.Name x p) (tVar i)) (hb : DE X W b db) (hm : behindInMarks op b = false := by rfl) : DT X W (.Compare (.Name x p) [op] [b] pos) (bVal (d2l g i db)) := DT.of (pt_cmpR h.op ha hb hm) (to_val (eo_2l canon_ok h.v h.sc))
theorem de_cmpr (h : CmpR X op r g) (i : Nat) (ha : DE X W a da) (hb : PE X (.Name x p) (tVar i)) (hm : behindInMarks op (.Name x p) = false := by rfl) : DE X W (.Compare a [op] [.Name x p] pos) (d2r g da i) := DE.of (pe_cmpR h.op ha hb hm) (eo_2r canon_ok h.v h.sc)
theorem dt_cmpr (h : CmpR X op r g) (i : Nat) (ha : DE X W a da) (hb : PE X (.Name x p) (tVar i)) (hm : behindInMarks op (.Name x p) = false := by rfl) : DT X W (.Compare a [op] [.Name x p] pos) (bVal (d2r g da i)) := DT.of (pt_cmpR h.op ha hb hm) (to_val (eo_2r canon_ok h.v h.sc))
/-- a op b op' c -/
def dChain (g g' : PV → PV → Option PV) (da db dc : Den) : Den := fun ρ => (da ρ).bind fun p ρ1 => (db ρ1).bind fun q ρ2 => match g p q with
  | some (.bl true) => (dc ρ2).bind fun r ρ3 => opt (g' q r) ρ3
  | some (.bl false) => .ok (.bl false) ρ2
  | _ => .bad
theorem eo_chain {K : PySem.W.Frag} {mg : Str → Option Value} {ta tb tc : TE} (hv : V2 K r g) (hv' : V2 K r' g') (ha : EOk K mg W ta da) (hb : EOk K mg W tb db) (hc : EOk K mg W tc dc) : EOk K mg W (tChain r r' ta tb tc) (dChain g g' da db dc) := by
  intro H₀ S₀ M S σ H ρ Q ab hp
  refine ha.bind (Rl' := rV K) ab hp fun p ρ1 v S1 H1 _ a1 _ r1 hp => ?_
  refine hb.bind (Rl' := rV K) a1 hp fun q ρ2 u S2 H2 _ a2 s2 r2 hp => ?_
  cases e : g p q with
  | none => simp only [e] at hp; exact hp.elim
  | some z =>
    cases z with
    | bl t =>
      refine hv S2 H2 v u p q _ _ a2.sub (r1.up s2) r2 e fun v' S3 H3 st rz => ?_
      cases rz
      cases t with
      | false =>
        simp only [e] at hp
        refine ⟨false, rfl, ?_⟩
        rw [if_neg Bool.false_ne_true]
        exact hp _ S3 H3 (a2.step st) (.bl false)
      | true =>
        simp only [e] at hp
        refine ⟨true, rfl, ?_⟩
        rw [if_pos rfl]
        refine hc.bind (Rl' := rV K) (a2.step st) hp fun c ρ3 w S4 H4 _ a4 s4 r4 hp => ?_
        cases e2 : g' q c with
        | none => rw [e2] at hp; exact hp.elim
        | some z =>
          rw [e2] at hp
          exact hv' S4 H4 u w q c z Q a4.sub (r2.up (st.s.trans s4)) r4 e2 fun v5 S5 H5 st5 rz => hp v5 S5 H5 (a4.step st5) rz
    | _ => simp only [e] at hp; exact hp.elim
theorem de_chain {c : Expr} (h : CmpR X op r g) (h' : CmpR X op' r' g') (ha : DE X W a da) (hb : DE X W b db) (hc : DE X W c dc) (hm : lastMarks [op, op'] [b, c] = false := by with_unfolding_all rfl) : DE X W (.Compare a [op, op'] [b, c] pos) (dChain g g' da db dc) :=
  DE.of (pe_chain h.op h'.op ha hb hc hm) (eo_chain h.v h'.v canon_ok canon_ok canon_ok)
theorem dt_chain {c : Expr} (h : CmpR X op r g) (h' : CmpR X op' r' g') (ha : DE X W a da) (hb : DE X W b db) (hc : DE X W c dc) (hm : lastMarks [op, op'] [b, c] = false := by with_unfolding_all rfl) : DT X W (.Compare a [op, op'] [b, c] pos) (bVal (dChain g g' da db dc)) :=
  DT.of (pt_chain h.op h'.op ha hb hc hm) (to_val (eo_chain h.v h'.v canon_ok canon_ok canon_ok))
end
/-! truth, and, or, not, if -/
theorem dt_tru (ha : DE X W a da) (he : ∀ whole, isTrue a X.env whole = (do let v ← whole; standAt a.pos; holding [v] (truthy v)) := by intro _; rfl) : DT X W a (bTru da) := DT.of (pt_truth ha he) (to_tru canon_ok vt_truth)
theorem dt_truv (i : Nat) (ha : PE X (.Name x p) (tVar i)) : DT X W (.Name x p) (bTruV i) := DT.of (pt_truth ha fun _ => rfl) (to_truv vt_truth)
theorem dt_w (h : DW X W a dt) : DT X W a dt := h.pt
theorem dw_and1 (h : DT X W a dt) : DW X W (.BoolOp .And [a] pos) dt := pw_and1 h
theorem dw_or1 (h : DT X W a dt) : DW X W (.BoolOp .Or [a] pos) dt := pw_or1 h
theorem dw_and (h : DT X W a dt) (h2 : DW X W (.BoolOp .And (b :: rest) pos) du) : DW X W (.BoolOp .And (a :: b :: rest) pos) (bAnd dt du) := DW.of (pw_and h h2) (to_and canon_ok canon_ok)
theorem dw_or (h : DT X W a dt) (h2 : DW X W (.BoolOp .Or (b :: rest) pos) du) : DW X W (.BoolOp .Or (a :: b :: rest) pos) (bOr dt du) := DW.of (pw_or h h2) (to_or canon_ok canon_ok)
theorem dt_not (h : DT X W a dt) : DT X W (.UnaryOp .Not a pos) (bNot dt) := DT.of (pt_not h) (to_not canon_ok)
/-- by truth, as values -/
def dAndT (da db : Den) : Den := fun ρ => (da ρ).bind fun p ρ1 => match truth p with
  | none => .bad
  | some b => if b = true then db ρ1 else .ok p ρ1
def dOrT (da db : Den) : Den := fun ρ => (da ρ).bind fun p ρ1 => match truth p with
  | none => .bad
  | some b => if b = true then .ok p ρ1 else db ρ1
def dNotT (da : Den) : Den := fun ρ => (da ρ).bind fun p ρ1 => opt ((truth p).map fun b => .bl (!b)) ρ1
theorem de_oneA (h : DE X W a da) : DE X W (.BoolOp .And [a] pos) da := pe_one h
theorem de_oneO (h : DE X W a da) : DE X W (.BoolOp .Or [a] pos) da := pe_one h
theorem de_and (h : DE X W a da) (h2 : DE X W (.BoolOp .And (b :: rest) pos) db) : DE X W (.BoolOp .And (a :: b :: rest) pos) (dAndT da db) := DE.of (pe_andT h h2) fun H₀ S₀ M S σ H ρ Q ab hp =>
  canon_ok.bind (Rl := rV X.K) (Rl' := rV X.K) ab hp fun p ρ1 v S1 H1 _ a1 _ r1 hp => by
    cases e : truth p with
    | none => simp only [e] at hp; exact hp.elim
    | some t =>
      simp only [e] at hp
      obtain ⟨z, h3, h4⟩ := vt_truth S1 H1 v p t (fun b' H' => b' = t ∧ H' = H1) a1.sub r1 e ⟨rfl, rfl⟩
      obtain ⟨h4, _⟩ := h4
      subst h4
      refine ⟨z, h3, ?_⟩
      cases z with
      | true => exact ⟨H₀, S₀, M, S1, ρ1, a1, hp⟩
      | false => exact hp v S1 H1 a1 r1
theorem de_or (h : DE X W a da) (h2 : DE X W (.BoolOp .Or (b :: rest) pos) db) : DE X W (.BoolOp .Or (a :: b :: rest) pos) (dOrT da db) := DE.of (pe_orT h h2) fun H₀ S₀ M S σ H ρ Q ab hp =>
  canon_ok.bind (Rl := rV X.K) (Rl' := rV X.K) ab hp fun p ρ1 v S1 H1 _ a1 _ r1 hp => by
    cases e : truth p with
    | none => simp only [e] at hp; exact hp.elim
    | some t =>
      simp only [e] at hp
      obtain ⟨z, h3, h4⟩ := vt_truth S1 H1 v p t (fun b' H' => b' = t ∧ H' = H1) a1.sub r1 e ⟨rfl, rfl⟩
      obtain ⟨h4, _⟩ := h4
      subst h4
      refine ⟨z, h3, ?_⟩
      cases z with
      | false => exact ⟨H₀, S₀, M, S1, ρ1, a1, hp⟩
      | true => exact hp v S1 H1 a1 r1
theorem de_not (h : DE X W a da) : DE X W (.UnaryOp .Not a pos) (dNotT da) := DE.of (pe_notT h) fun H₀ S₀ M S σ H ρ Q ab hp =>
  canon_ok.bind (Rl := rV X.K) (Rl' := rV X.K) ab hp fun p ρ1 v S1 H1 _ a1 _ r1 hp => by
    cases e : truth p with
    | none => rw [e] at hp; exact hp.elim
    | some t =>
      rw [e] at hp
      obtain ⟨z, h3, h4⟩ := vt_truth S1 H1 v p t (fun b' H' => b' = t ∧ H' = H1) a1.sub r1 e ⟨rfl, rfl⟩
      obtain ⟨h4, _⟩ := h4
      subst h4
      exact ⟨z, h3, hp _ S1 H1 a1 (.bl _)⟩
theorem de_if {c : Expr} (hc : DT X W c dt) (ha : DE X W a da) (hb : DE X W b db) : DE X W (.IfExp c a b pos) (dIf dt da db) := DE.of (pe_ifExp hc ha hb) (eo_if canon_ok canon_ok canon_ok)
/-! arguments, displays -/
theorem da_nil : DA X W [] dNil := DA.of pa_nil ao_nil
theorem da_cons (ha : DE X W e da) (hr : DA X W es dl) (hs : starEach (e :: es) X.env = (false, eval e X.env) :: starEach es X.env := by rfl) : DA X W (e :: es) (dCons da dl) := DA.of (pa_cons ha hr hs) (ao_cons canon_ok canon_ok)
def dLst (dl : DenL) : Den := fun ρ => (dl ρ).bind fun ps ρ1 => if ps.length ≤ sizeLine then .ok (.lst ps) ρ1 else .bad
def dTup (dl : DenL) : Den := fun ρ => (dl ρ).bind fun ps ρ1 => if ps.length ≤ sizeLine then .ok (.tup ps) ρ1 else .bad
theorem df_lst (h : DA X W es dl) : DF X W (.List es pos) (dLst dl) := DF.of (pe_lst h) fun H₀ S₀ M S σ H ρ Q ab hp =>
  canon_ok.bind (Rl' := rF X.K) ab hp fun ps ρ1 vs S1 H1 _ a1 _ r1 hp => by
    split at hp
    · rename_i hz
      have r1 : RepL X.K S1 ps vs := r1
      refine ⟨by rw [← r1.length]; exact hz, fun c n => hp _ S1 _ (a1.fresh n (p := .lst ps) (o := .lst vs) r1).1 (a1.fresh n (p := .lst ps) (o := .lst vs) r1).2⟩
    · exact hp.elim
theorem de_tup {j : Nat} (h : DA X W es dl) : DE X W (.Tuple es j pos) (dTup dl) := DE.of (pe_tup h) fun H₀ S₀ M S σ H ρ Q ab hp =>
  canon_ok.bind (Rl' := rV X.K) ab hp fun ps ρ1 vs S1 H1 _ a1 _ r1 hp => by
    split at hp
    · rename_i hz
      have r1 : RepL X.K S1 ps vs := r1
      refine ⟨by rw [← r1.length]; exact hz, fun c n => hp _ (upd S1 c (.tup vs)) _ (a1.step (Step.new1 a1.sub n)) (.tup upd_same (r1.up (same_upd (Same.free a1.sub n))))⟩
    · exact hp.elim
/-! subscripts and slices -/
theorem de_ix (ha : DE X W a da) (hb : DE X W b db) (hs : PlainIx b := by intro _ _; rfl) : DE X W (.Subscript a b pos) (d2 gIx da db) := DE.of (pe_ix ix_seq ha hb hs) (eo_2 canon_ok canon_ok v2_ix)
theorem de_ixv (i : Nat) (ha : PE X (.Name x p) (tVar i)) (hb : DE X W b db) (hs : PlainIx b := by intro _ _; rfl) : DE X W (.Subscript (.Name x p) b pos) (d2l gIx i db) := DE.of (pe_ix ix_seq ha hb hs) (eo_ixv canon_ok)
theorem do_none : DO X W none oNone := DO.of po_none oo_none
theorem do_some (h : DE X W e da) : DO X W (some e) (oSome da) := DO.of (po_some h) (oo_some canon_ok)
theorem de_sl {lo hi : Option Expr} {dlo dhi : DenO} (ha : DE X W a da) (hl : DO X W lo dlo) (hh : DO X W hi dhi) : DE X W (.Subscript a (.Slice lo hi none p2) pos) (dSl gSl da dlo dhi) := DE.of (pe_slice sl_U ha hl hh) (eo_sl canon_ok canon_ok canon_ok vs_U)
theorem df_sl {lo hi : Option Expr} {dlo dhi : DenO} (ha : DE X W a da) (hl : DO X W lo dlo) (hh : DO X W hi dhi) : DF X W (.Subscript a (.Slice lo hi none p2) pos) (dSl gSlL da dlo dhi) := DF.of (pe_slice sl_list ha hl hh) (fo_sl canon_ok canon_ok canon_ok vsf_list)
theorem df_slv {lo hi : Option Expr} {dlo dhi : DenO} (i : Nat) (ha : PE X (.Name x p) (tVar i)) (hl : DO X W lo dlo) (hh : DO X W hi dhi) : DF X W (.Subscript (.Name x p) (.Slice lo hi none p2) pos) (dSlv gSlL i dlo dhi) := DF.of (pe_slice sl_list ha hl hh) (fo_slv canon_ok canon_ok)
/-! built-in functions -/
theorem de_b {id : String} {r : List V → Hp → VK → Prop} {g : List PV → Option PV} (hc : CallR X (.builtin id) r) (hv : VN X.K r g) (hm : X.mg x = none) (hb : bootBuiltins x = some (.builtin id)) (ha : DA X W (e :: es) dl) (hg : Gl X x := by rfl) (hn : x ≠ "__name__" := by decide) (hdb : (x == ("__debug__" : Str)) = false := by decide)
    (he : starEach (e :: es) X.env = (false, eval e X.env) :: starEach es X.env := by rfl) (hpl : (backTo pos (starEach es X.env)).any (·.1) = false := by rfl) : DE X W (.Call (.Name x p) (e :: es) [] pos) (dN g dl) := DE.of (pe_callB hc hg hm hb ha hn hdb he hpl) (eo_n canon_ok hv)
theorem de_bty {T : String} {r : List V → Hp → VK → Prop} {g : List PV → Option PV} (hc : CallR X (.type T) r) (hv : VN X.K r g) (hm : X.mg x = none) (hb : bootBuiltins x = some (.type T)) (ha : DA X W (e :: es) dl) (hg : Gl X x := by rfl) (hn : x ≠ "__name__" := by decide) (hdb : (x == ("__debug__" : Str)) = false := by decide)
    (he : starEach (e :: es) X.env = (false, eval e X.env) :: starEach es X.env := by rfl) (hpl : (backTo pos (starEach es X.env)).any (·.1) = false := by rfl) : DE X W (.Call (.Name x p) (e :: es) [] pos) (dN g dl) := DE.of (pe_callTy hc hg hm hb ha hn hdb he hpl) (eo_n canon_ok hv)
theorem de_lenv (B : Bi X.mg) (i : Nat) (ha : PE X (.Name x p2) (tVar i)) (hg : Gl X "len" := by rfl) (he : starEach [.Name x p2] X.env = (false, eval (.Name x p2) X.env) :: starEach [] X.env := by rfl) (hs : starEach ([] : List Expr) X.env = [] := by rfl) (hpl : (backTo pos (starEach [] X.env)).any (·.1) = false := by rfl) :
    DE X W (.Call (.Name "len" p) [.Name x p2] [] pos) (d1v gLen i) := DE.of (pe_callB call_len hg B.len PySem.boot_len (pa_cons ha pa_nil he) (by decide) (by decide) he hpl) (eo_nv vn_len len_sc)
theorem de_len (B : Bi X.mg) (ha : DA X W (e :: es) dl) (hg : Gl X "len" := by rfl) (he : starEach (e :: es) X.env = (false, eval e X.env) :: starEach es X.env := by rfl) (hpl : (backTo pos (starEach es X.env)).any (·.1) = false := by rfl) :
    DE X W (.Call (.Name "len" p) (e :: es) [] pos) (dN gLenN dl) := de_b call_len vn_len B.len PySem.boot_len ha hg (by decide) (by decide) he hpl
theorem de_abs (B : Bi X.mg) (ha : DA X W (e :: es) dl) (hg : Gl X "abs" := by rfl) (he : starEach (e :: es) X.env = (false, eval e X.env) :: starEach es X.env := by rfl) (hpl : (backTo pos (starEach es X.env)).any (·.1) = false := by rfl) :
    DE X W (.Call (.Name "abs" p) (e :: es) [] pos) (dN gAbs dl) := de_b call_abs vn_abs B.abs (by decide +kernel) ha hg (by decide) (by decide) he hpl
theorem de_max2 (c : Ctx X W k) (B : Bi X.mg) (ha : DA X W (e :: es) dl) (hg : Gl X "max" := by rfl) (he : starEach (e :: es) X.env = (false, eval e X.env) :: starEach es X.env := by rfl) (hpl : (backTo pos (starEach es X.env)).any (·.1) = false := by rfl) :
    DE X W (.Call (.Name "max" p) (e :: es) [] pos) (dN gMax2 dl) := de_b (call_max2 c.calm) vn_max2 B.max (by decide +kernel) ha hg (by decide) (by decide) he hpl
theorem de_min2 (c : Ctx X W k) (B : Bi X.mg) (ha : DA X W (e :: es) dl) (hg : Gl X "min" := by rfl) (he : starEach (e :: es) X.env = (false, eval e X.env) :: starEach es X.env := by rfl) (hpl : (backTo pos (starEach es X.env)).any (·.1) = false := by rfl) :
    DE X W (.Call (.Name "min" p) (e :: es) [] pos) (dN gMin2 dl) := de_b (call_min2 c.calm) vn_min2 B.min (by decide +kernel) ha hg (by decide) (by decide) he hpl
theorem de_sum (c : Ctx X W k) (B : Bi X.mg) (ha : DA X W (e :: es) dl) (hg : Gl X "sum" := by rfl) (he : starEach (e :: es) X.env = (false, eval e X.env) :: starEach es X.env := by rfl) (hpl : (backTo pos (starEach es X.env)).any (·.1) = false := by rfl) :
    DE X W (.Call (.Name "sum" p) (e :: es) [] pos) (dN gSumN dl) := de_b (cr_sum c.calm) vn_sum B.sum (by decide +kernel) ha hg (by decide) (by decide) he hpl
theorem de_toint (B : Bi X.mg) (ha : DA X W (e :: es) dl) (hg : Gl X "int" := by rfl) (he : starEach (e :: es) X.env = (false, eval e X.env) :: starEach es X.env := by rfl) (hpl : (backTo pos (starEach es X.env)).any (·.1) = false := by rfl) :
    DE X W (.Call (.Name "int" p) (e :: es) [] pos) (dN gInt dl) := de_bty call_intU vn_int B.int (by decide +kernel) ha hg (by decide) (by decide) he hpl
/-! what changes a list -/
theorem de_append (i : Nat) (ho : PE X (.Name x np) (tVar i)) (ha : DA X W (e :: es) dl) (hbase : attributeBase (.Name x np) "append" X.env (eval (.Name x np) X.env) = eval (.Name x np) X.env := by rfl)
    (hfew : ((backTo cpos (starEach (e :: es) X.env)).all (fun x => !x.1) && (backToKw cpos (keywordEach [] X.env)).all (fun x => x.1.isSome) && decide ((e :: es).length + ([] : List Keyword).length + (if ([] : List Keyword).isEmpty then 0 else 1) < 30)) = true := by rfl)
    (hline : (apos.endLine == cpos.line) = true := by rfl) (hs : starEach (e :: es) X.env = (false, eval e X.env) :: starEach es X.env := by rfl) (hplain : (backTo cpos (starEach es X.env)).any (·.1) = false := by rfl) :
    DE X W (.Call (.Attribute (.Name x np) "append" apos) (e :: es) [] cpos) (dMut "list" gAppend i dl) :=
  DE.of (pe_bm PySem.F.plainAttrs_list PySem.F.slot_list_append PySem.F.type_list_append mt_append ho ha hbase hfew hline hs hplain) (eo_mut canon_ok mu_append)
theorem de_extend (i : Nat) (ho : PE X (.Name x np) (tVar i)) (ha : DA X W (e :: es) dl) (hbase : attributeBase (.Name x np) "extend" X.env (eval (.Name x np) X.env) = eval (.Name x np) X.env := by rfl)
    (hfew : ((backTo cpos (starEach (e :: es) X.env)).all (fun x => !x.1) && (backToKw cpos (keywordEach [] X.env)).all (fun x => x.1.isSome) && decide ((e :: es).length + ([] : List Keyword).length + (if ([] : List Keyword).isEmpty then 0 else 1) < 30)) = true := by rfl)
    (hline : (apos.endLine == cpos.line) = true := by rfl) (hs : starEach (e :: es) X.env = (false, eval e X.env) :: starEach es X.env := by rfl) (hplain : (backTo cpos (starEach es X.env)).any (·.1) = false := by rfl) :
    DE X W (.Call (.Attribute (.Name x np) "extend" apos) (e :: es) [] cpos) (dMut "list" gExtend i dl) :=
  DE.of (pe_bm PySem.F.plainAttrs_list PySem.F.slot_list_extend PySem.F.type_list_extend mt_extend ho ha hbase hfew hline hs hplain) (eo_mut canon_ok mu_extend)
theorem de_popAt (i : Nat) (ho : PE X (.Name x np) (tVar i)) (ha : DA X W (e :: es) dl) (hbase : attributeBase (.Name x np) "pop" X.env (eval (.Name x np) X.env) = eval (.Name x np) X.env := by rfl)
    (hfew : ((backTo cpos (starEach (e :: es) X.env)).all (fun x => !x.1) && (backToKw cpos (keywordEach [] X.env)).all (fun x => x.1.isSome) && decide ((e :: es).length + ([] : List Keyword).length + (if ([] : List Keyword).isEmpty then 0 else 1) < 30)) = true := by rfl)
    (hline : (apos.endLine == cpos.line) = true := by rfl) (hs : starEach (e :: es) X.env = (false, eval e X.env) :: starEach es X.env := by rfl) (hplain : (backTo cpos (starEach es X.env)).any (·.1) = false := by rfl) :
    DE X W (.Call (.Attribute (.Name x np) "pop" apos) (e :: es) [] cpos) (dMut "list" gPopAt i dl) :=
  DE.of (pe_bm PySem.F.plainAttrs_list PySem.F.slot_list_pop PySem.F.type_list_pop mt_popAt ho ha hbase hfew hline hs hplain) (eo_mut canon_ok mu_popAt)
theorem de_pop (i : Nat) (ho : PE X (.Name x np) (tVar i)) (hbase : attributeBase (.Name x np) "pop" X.env (eval (.Name x np) X.env) = eval (.Name x np) X.env := by rfl) (hline : (apos.endLine == cpos.line) = true := by rfl) :
    DE X W (.Call (.Attribute (.Name x np) "pop" apos) [] [] cpos) (dMut0 "list" gPop i) :=
  DE.of (pe_bm0 PySem.F.plainAttrs_list PySem.F.slot_list_pop PySem.F.type_list_pop mt_pop ho hbase hline) (eo_mut0 mu_pop)
theorem de_reverse (i : Nat) (ho : PE X (.Name x np) (tVar i)) (hbase : attributeBase (.Name x np) "reverse" X.env (eval (.Name x np) X.env) = eval (.Name x np) X.env := by rfl) (hline : (apos.endLine == cpos.line) = true := by rfl) :
    DE X W (.Call (.Attribute (.Name x np) "reverse" apos) [] [] cpos) (dMut0 "list" gReverse i) :=
  DE.of (pe_bm0 PySem.F.plainAttrs_list PySem.F.slot_list_reverse PySem.F.type_list_reverse mt_reverse ho hbase hline) (eo_mut0 mu_reverse)
end

/-! ### defs called by name -/
structure Fd (P : Program) (w : World) (K : PySem.W.Frag) (mg : Str → Option Value) (base : Heap) (x : Str) (k : Nat) (io fr : Bool) (n : Nat) (F : List PV → FR) : Prop where
  ex : ∃ (f : Addr) (fd : FuncData) (ps : List Str), FnOk P w K mg base (L2.CX P w) k f fd ps (spD K mg io fr n F) ∧ mg x = some (.ref f) ∧ PySem.W.keepIn K (.ref f) = true ∧ Binds K fd ps []
  len : ∀ ps, F ps ≠ .bad → ps.length = n
section
variable {X : Cx} {W : WX} {fr : Bool} {j k : Nat} {pos p p2 : Pos} {e : Expr} {es : List Expr} {dl : DenL} {x y : Str} {n : Nat} {F : List PV → FR}
theorem de_call (G : Fd X.prog X.w X.K X.mg X.base x j false false n F) (c : Ctx X W k) (ha : DA X W (e :: es) dl) (hj : j ≤ k := by decide) (hg : Gl X x := by rfl) (hdb : (x == ("__debug__" : Str)) = false := by decide)
    (he : starEach (e :: es) X.env = (false, eval e X.env) :: starEach es X.env := by rfl) (hpl : (backTo pos (starEach es X.env)).any (·.1) = false := by rfl) : DE X W (.Call (.Name x p) (e :: es) [] pos) (dCall F dl) := by
  obtain ⟨f, fd, ps, h1, h2, h3, h4⟩ := G.ex
  exact DE.of (pe_callS h1 (c.room.mono hj) hg h2 h3 h4 (fun σ => passAt c.tk σ) ha hdb he hpl) (eo_call canon_ok G.len)
theorem df_call (G : Fd X.prog X.w X.K X.mg X.base x j false true n F) (c : Ctx X W k) (ha : DA X W (e :: es) dl) (hj : j ≤ k := by decide) (hg : Gl X x := by rfl) (hdb : (x == ("__debug__" : Str)) = false := by decide)
    (he : starEach (e :: es) X.env = (false, eval e X.env) :: starEach es X.env := by rfl) (hpl : (backTo pos (starEach es X.env)).any (·.1) = false := by rfl) : DF X W (.Call (.Name x p) (e :: es) [] pos) (dCall F dl) := by
  obtain ⟨f, fd, ps, h1, h2, h3, h4⟩ := G.ex
  exact DF.of (pe_callS h1 (c.room.mono hj) hg h2 h3 h4 (fun σ => passAt c.tk σ) ha hdb he hpl) (fo_call canon_ok G.len)
theorem de_callIo (G : Fd X.prog X.w X.K X.mg X.base x j true false n F) (c : Ctx X W k) (i : Nat) (ho : PE X (.Name y p2) (tVar i)) (ha : DA X W es dl) (hj : j ≤ k := by decide) (hg : Gl X x := by rfl) (hdb : (x == ("__debug__" : Str)) = false := by decide)
    (he : starEach (.Name y p2 :: es) X.env = (false, eval (.Name y p2) X.env) :: starEach es X.env := by rfl) (hpl : (backTo pos (starEach es X.env)).any (·.1) = false := by rfl) : DE X W (.Call (.Name x p) (.Name y p2 :: es) [] pos) (dCallIo F i dl) := by
  obtain ⟨f, fd, ps, h1, h2, h3, h4⟩ := G.ex
  exact DE.of (pe_callS h1 (c.room.mono hj) hg h2 h3 h4 (fun σ => passAt c.tk σ) (pa_cons ho ha he) hdb he hpl) (eo_callIo canon_ok G.len)
theorem df_callIo (G : Fd X.prog X.w X.K X.mg X.base x j true true n F) (c : Ctx X W k) (i : Nat) (ho : PE X (.Name y p2) (tVar i)) (ha : DA X W es dl) (hj : j ≤ k := by decide) (hg : Gl X x := by rfl) (hdb : (x == ("__debug__" : Str)) = false := by decide)
    (he : starEach (.Name y p2 :: es) X.env = (false, eval (.Name y p2) X.env) :: starEach es X.env := by rfl) (hpl : (backTo pos (starEach es X.env)).any (·.1) = false := by rfl) : DF X W (.Call (.Name x p) (.Name y p2 :: es) [] pos) (dCallIo F i dl) := by
  obtain ⟨f, fd, ps, h1, h2, h3, h4⟩ := G.ex
  exact DF.of (pe_callS h1 (c.room.mono hj) hg h2 h3 h4 (fun σ => passAt c.tk σ) (pa_cons ho ha he) hdb he hpl) (fo_callIo canon_ok G.len)
end
end PL

set_option Elab.async false
set_option linter.all false
set_option maxRecDepth 100000
set_option maxHeartbeats 4000000
namespace PL
open PySem PySem.Spec L2
set_option autoImplicit false

/-! ### what is walked -/
section
variable {K : PySem.W.Frag} {S H : Hp}
theorem itr_list {a : Addr} {vs : List V} {ps : List PV} (s : Same S H) (h : S a = some (.lst vs)) (r : RepL K S ps vs) : ItR K S H ps (Itl K a) := fun i S1 H1 s1 s2 => by
  have hl : SqL K H1 a vs := .inl (.inl (s2 _ _ (s1 _ _ h)))
  refine ⟨fun hi => ⟨vs, hl, by rw [← r.length]; exact hi⟩, fun p e => ?_⟩
  obtain ⟨v, h1, h2⟩ := r.get e
  refine ⟨⟨vs, v, hl, h1⟩, fun x H2 y => ?_⟩
  obtain ⟨e1, y⟩ := y
  subst e1
  have e2 := y vs hl
  rw [h1] at e2
  cases e2
  exact ⟨S1, Step.refl s2, h2.up s1⟩
theorem itr_tup {a : Addr} {vs : List V} {ps : List PV} (s : Same S H) (h : SqT K S a vs) (r : RepL K S ps vs) : ItR K S H ps (Itt K a) := fun i S1 H1 s1 s2 => by
  have hl : SqT K H1 a vs := Same.tupK s2 (Same.tupK s1 h)
  refine ⟨fun hi => ⟨vs, hl, by rw [← r.length]; exact hi⟩, fun p e => ?_⟩
  obtain ⟨v, h1, h2⟩ := r.get e
  refine ⟨⟨vs, v, hl, h1⟩, fun x H2 y => ?_⟩
  obtain ⟨e1, y⟩ := y
  subst e1
  have e2 := y vs hl
  rw [h1] at e2
  cases e2
  exact ⟨S1, Step.refl s2, h2.up s1⟩
def signs (x : Str) : List PV := x.cps.toList.map fun c => .str ⟨#[c]⟩
theorem itr_str {x : Str} : ItR K S H (signs x) (Its x) := fun i S1 H1 s1 s2 => by
  refine ⟨fun hi => ?_, fun p e => ?_⟩
  · have hi : (x.cps.toList.map fun c => (PV.str ⟨#[c]⟩)).length ≤ i := hi
    rw [List.length_map, Array.length_toList] at hi
    exact hi
  · have e : (x.cps.toList.map fun c => (PV.str ⟨#[c]⟩))[i]? = some p := e
    rw [List.getElem?_map] at e
    cases h : x.cps.toList[i]? with
    | none => rw [h] at e; cases e
    | some c =>
      rw [h] at e
      cases e
      have hi : i < x.cps.size := by
        have z := (List.getElem?_eq_some_iff.mp h).1
        rw [Array.length_toList] at z
        exact z
      refine ⟨hi, fun v H2 y => ?_⟩
      obtain ⟨e1, d, h1, h2⟩ := y
      subst e1
      have h3 : x.cps[i]? = some c := by rw [← Array.getElem?_toList]; exact h
      rw [h3] at h1
      cases h1
      subst h2
      exact ⟨S1, Step.refl s2, .str _⟩
def rangeP (lo : Int) (n : Nat) : List PV := (List.range n).map fun (i : Nat) => .int (lo + (i : Int))
theorem itr_range {lo : Int} {n : Nat} : ItR K S H (rangeP lo n) (Itr lo n) := fun i S1 H1 s1 s2 => by
  refine ⟨fun hi => ?_, fun p e => ?_⟩
  · unfold rangeP at hi
    rw [List.length_map, List.length_range] at hi
    exact hi
  · unfold rangeP at e
    rw [List.getElem?_map] at e
    cases h : (List.range n)[i]? with
    | none => rw [h] at e; cases e
    | some c =>
      rw [h] at e
      cases e
      have hi : i < n := by
        have z := (List.getElem?_eq_some_iff.mp h).1
        rwa [List.length_range] at z
      rw [List.getElem?_range hi] at h
      cases h
      refine ⟨hi, fun v H2 y => ?_⟩
      obtain ⟨e1, h2⟩ := y
      subst e1
      subst h2
      exact ⟨S1, Step.refl s2, .int _⟩
def rangeC (lo c : Int) (n : Nat) : List PV := (List.range n).map fun (i : Nat) => .int (lo + (i : Int) * c)
theorem itr_rangeC {lo c : Int} {n : Nat} : ItR K S H (rangeC lo c n) (Itc lo c n) := fun i S1 H1 s1 s2 => by
  refine ⟨fun hi => ?_, fun p e => ?_⟩
  · unfold rangeC at hi
    rw [List.length_map, List.length_range] at hi
    exact hi
  · unfold rangeC at e
    rw [List.getElem?_map] at e
    cases h : (List.range n)[i]? with
    | none => rw [h] at e; cases e
    | some j =>
      rw [h] at e
      cases e
      have hi : i < n := by
        have z := (List.getElem?_eq_some_iff.mp h).1
        rwa [List.length_range] at z
      rw [List.getElem?_range hi] at h
      cases h
      refine ⟨hi, fun v H2 y => ?_⟩
      obtain ⟨e1, h2⟩ := y
      subst e1
      subst h2
      exact ⟨S1, Step.refl s2, .int _⟩
def enumP (i : Int) : List PV → List PV
  | [] => []
  | p :: ps => .tup [.int i, p] :: enumP (i + 1) ps
theorem enumP_get : ∀ (ps : List PV) (i : Int) (n : Nat), (enumP i ps)[n]? = (ps[n]?).map fun p => .tup [.int (i + n), p]
  | [], i, n => by simp [enumP]
  | p :: ps, i, 0 => by simp [enumP]
  | p :: ps, i, n + 1 => by
    simp only [enumP, List.getElem?_cons_succ]
    rw [enumP_get ps (i + 1) n]
    cases ps[n]? with
    | none => rfl
    | some q =>
      show some (PV.tup [.int (i + 1 + n), q]) = some (PV.tup [.int (i + ((n + 1 : Nat) : Int)), q])
      rw [show i + 1 + (n : Int) = i + ((n + 1 : Nat) : Int) by omega]
theorem enumP_length : ∀ (ps : List PV) (i : Int), (enumP i ps).length = ps.length
  | [], _ => rfl
  | p :: ps, i => by simp [enumP, enumP_length ps]
theorem itr_enum {a : Addr} {vs : List V} {ps : List PV} (s : Same S H) (h : S a = some (.lst vs)) (r : RepL K S ps vs) : ItR K S H (enumP 0 ps) (Ite K a) := fun i S1 H1 s1 s2 => by
  have hl : SqL K H1 a vs := .inl (.inl (s2 _ _ (s1 _ _ h)))
  refine ⟨fun hi => ⟨vs, hl, by rw [enumP_length] at hi; rw [← r.length]; exact hi⟩, fun p e => ?_⟩
  rw [enumP_get] at e
  cases e1 : ps[i]? with
  | none => rw [e1] at e; cases e
  | some q =>
    rw [e1] at e
    cases e
    obtain ⟨v, h1, h2⟩ := r.get e1
    refine ⟨⟨vs, v, hl, h1⟩, fun x H2 y => ?_⟩
    obtain ⟨T, x', rfl, hT, rfl, y⟩ := y
    have e2 := y vs hl
    rw [h1] at e2
    cases e2
    refine ⟨upd S1 T (.tup [.int (i : Nat), v]), Step.new1 s2 hT, .tup upd_same ?_⟩
    refine .cons ?_ (.cons ((h2.up s1).up (same_upd (Same.free s2 hT))) .nil)
    rw [Int.zero_add]
    exact .int _
theorem itr_zip {a b : Addr} {vs us : List V} {ps qs : List PV} (s : Same S H) (h : S a = some (.lst vs)) (r : RepL K S ps vs) (h' : S b = some (.lst us)) (r' : RepL K S qs us) : ItR K S H (List.zipWith (fun p q => .tup [p, q]) ps qs) (Itz K a b) := fun i S1 H1 s1 s2 => by
  have hl : SqL K H1 a vs := .inl (.inl (s2 _ _ (s1 _ _ h)))
  have hl' : SqL K H1 b us := .inl (.inl (s2 _ _ (s1 _ _ h')))
  refine ⟨fun hi => ⟨vs, us, hl, hl', ?_⟩, fun p e => ?_⟩
  · rw [List.length_zipWith, r.length, r'.length] at hi
    omega
  · rw [List.getElem?_zipWith] at e
    cases e1 : ps[i]? with
    | none => rw [e1] at e; cases e
    | some q =>
      cases e2 : qs[i]? with
      | none => rw [e1, e2] at e; cases e
      | some q' =>
        rw [e1, e2] at e
        cases e
        obtain ⟨v, h1, h2⟩ := r.get e1
        obtain ⟨u, h3, h4⟩ := r'.get e2
        refine ⟨⟨vs, us, v, u, hl, hl', h1, h3⟩, fun x H2 y => ?_⟩
        obtain ⟨T, x', y', rfl, hT, rfl, y1, y2⟩ := y
        have z1 := y1 vs hl
        rw [h1] at z1
        cases z1
        have z2 := y2 us hl'
        rw [h3] at z2
        cases z2
        exact ⟨upd S1 T (.tup [v, u]), Step.new1 s2 hT, .tup upd_same (.cons ((h2.up s1).up (same_upd (Same.free s2 hT))) (.cons ((h4.up s1).up (same_upd (Same.free s2 hT))) .nil))⟩
theorem itr_rev {a : Addr} {vs : List V} {ps : List PV} (s : Same S H) (h : S a = some (.lst vs)) (r : RepL K S ps vs) : ItR K S H ps.reverse (Itv K a vs.length) := fun i S1 H1 s1 s2 => by
  have hl : SqL K H1 a vs := .inl (.inl (s2 _ _ (s1 _ _ h)))
  refine ⟨fun hi => by rw [List.length_reverse, r.length] at hi; exact hi, fun p e => ?_⟩
  have hi : i < ps.reverse.length := (List.getElem?_eq_some_iff.mp e).1
  rw [List.length_reverse, r.length] at hi
  have e0 : ps[ps.length - 1 - i]? = some p := by
    rw [List.getElem?_reverse (by rw [r.length]; exact hi)] at e
    exact e
  obtain ⟨v, h1, h2⟩ := r.get e0
  rw [r.length] at h1
  refine ⟨⟨hi, vs, v, hl, h1⟩, fun x H2 y => ?_⟩
  obtain ⟨e1, y⟩ := y
  subst e1
  have e2 := y vs hl
  rw [h1] at e2
  cases e2
  exact ⟨S1, Step.refl s2, h2.up s1⟩
end
def seqOf : PV → Option (List PV)
  | .lst ps => some ps
  | .tup ps => some ps
  | .ktup ps => some ps
  | .str x => some (signs x)
  | _ => none
def iSeq (da : Den) : DenL := fun ρ => (da ρ).bind fun p ρ1 => opt (seqOf p) ρ1
def iR1 (dl : DenL) : DenL := fun ρ => (dl ρ).bind fun ps ρ1 => match ps with
  | [.int j] => if decide (-(2 ^ 62) ≤ j) && decide (j < 2 ^ 62) then .ok (rangeP 0 j.toNat) ρ1 else .bad
  | _ => .bad
def iR2 (dl : DenL) : DenL := fun ρ => (dl ρ).bind fun ps ρ1 => match ps with
  | [.int i, .int j] => if (decide (-(2 ^ 62) ≤ i) && decide (i < 2 ^ 62)) && (decide (-(2 ^ 62) ≤ j) && decide (j < 2 ^ 62)) then .ok (rangeP i (j - i).toNat) ρ1 else .bad
  | _ => .bad
def iEnu (dl : DenL) : DenL := fun ρ => (dl ρ).bind fun ps ρ1 => match ps with
  | [.lst qs] => .ok (enumP 0 qs) ρ1
  | _ => .bad
def iZp (dl : DenL) : DenL := fun ρ => (dl ρ).bind fun ps ρ1 => match ps with
  | [.lst qs, .lst rs] => .ok (List.zipWith (fun p q => .tup [p, q]) qs rs) ρ1
  | _ => .bad
def iRv (dl : DenL) : DenL := fun ρ => (dl ρ).bind fun ps ρ1 => match ps with
  | [.lst qs] => .ok qs.reverse ρ1
  | _ => .bad
/-- range(i, j, c) with a written step -/
def rgN (i j c : Int) : Option Nat := if c = 0 then none else if decide (c.natAbs < 1073741824) && Builtin.Range.small i j c then some (Builtin.Range.rangeSize i j c).toNat else none
def iR3 (dl : DenL) : DenL := fun ρ => (dl ρ).bind fun ps ρ1 => match ps with
  | [.int i, .int j, .int c] => if c = 2 ∨ c = -1 then (if decide (-(2 ^ 60) ≤ i) && decide (i < 2 ^ 60) && (decide (-(2 ^ 60) ≤ j) && decide (j < 2 ^ 60)) then .ok (rangeC i c (if c = 2 then ((j - i + 1) / 2).toNat else (i - j).toNat)) ρ1 else .bad) else .bad
  | _ => .bad
section
variable {X : Cx} {W : WX} {fr : Bool} {k : Nat} {pos p p2 tpos : Pos} {e a b c : Expr} {es elts : List Expr} {da : Den} {dl : DenL} {x : Str} {tg : Expr} {kk : Nat}
theorem di_seq (he : DE X W e da) : DI X W tg e (iSeq da) := by
  refine ⟨fun pins s σ H R I h => ?_⟩
  obtain ⟨H₀, S₀, M, S, ρ, ab, hp⟩ := h
  have h1 : canon X.K X.mg W (rV X.K) da σ H fun v H1 => ∃ (S1 : Hp) (ρ1 : Env) (q : PV) (ps : List PV), Abs X.K H₀ S₀ M S1 σ H1 ρ1 ∧ Rep X.K S1 q v ∧ seqOf q = some ps ∧ ∀ J, ItR X.K S1 H1 ps J → R J H1 :=
    XOk.bind (Rl' := rIt X.K) canon_ok ab hp fun q ρ1 v S1 H1 _ a1 _ r1 hp => by
      cases e1 : seqOf q with
      | none => rw [e1] at hp; exact hp.elim
      | some ps =>
        rw [e1] at hp
        exact ⟨S1, ρ1, q, ps, a1, r1, e1, fun J j => hp J S1 H1 a1 j⟩
  refine thn (he.run pins s σ H _ I h1) fun v s1 ⟨y, H1, I1, r1, S1, ρ1, q, ps, a1, rq, e1, hR⟩ => ?_
  cases q with
  | lst qs =>
    cases e1
    cases rq with
    | lst h2 h3 =>
      cases r1
      obtain ⟨its, rv, pl, hz⟩ := I1.list (.inl (.inl (a1.sub _ _ h2)))
      refine PySem.wpAny_pyIter_list pl.isList ?_
      refine ⟨s1.heap.objs.size, [s1.heap.objs.size], _, _, H1, rfl, I1.kept (t' := s1.toks) fun b o e => Heap.get?_push_of_some _ e, turn_list _ _, ⟨_, Heap.get?_push_size _ rfl, rfl, rfl⟩, fun b hb => ?_, hR _ (itr_list a1.sub h2 h3)⟩
      have e : b = s1.heap.objs.size := by simpa using hb
      subst e
      exact I1.fpOk (Nat.le_refl _) (I1.hok.fresh (Nat.le_refl _))
  | tup qs =>
    cases e1
    cases rq with
    | tup h2 h3 =>
      cases r1
      obtain ⟨its, rv, pl, hz⟩ := I1.tuple (.inl (.inl (a1.sub _ _ h2)))
      refine PySem.wpAny_pyIter_tuple (show s1.heap.IsTuple _ its.toArray from pl) ?_
      refine ⟨s1.heap.objs.size, [s1.heap.objs.size], _, _, H1, rfl, I1.kept (t' := s1.toks) fun b o e => Heap.get?_push_of_some _ e, turn_tuple _ _, ⟨_, Heap.get?_push_size _ rfl, rfl, rfl⟩, fun b hb => ?_, hR _ (itr_tup a1.sub (.inl (.inl h2)) h3)⟩
      have e : b = s1.heap.objs.size := by simpa using hb
      subst e
      exact I1.fpOk (Nat.le_refl _) (I1.hok.fresh (Nat.le_refl _))
  | ktup qs =>
    cases e1
    cases rq with
    | ktup h2 h3 =>
      cases r1
      obtain ⟨its, rv, pl, hz⟩ := I1.tuple (Same.tupK a1.sub h2)
      refine PySem.wpAny_pyIter_tuple (show s1.heap.IsTuple _ its.toArray from pl) ?_
      refine ⟨s1.heap.objs.size, [s1.heap.objs.size], _, _, H1, rfl, I1.kept (t' := s1.toks) fun b o e => Heap.get?_push_of_some _ e, turn_tuple _ _, ⟨_, Heap.get?_push_size _ rfl, rfl, rfl⟩, fun b hb => ?_, hR _ (itr_tup a1.sub h2 h3)⟩
      have e : b = s1.heap.objs.size := by simpa using hb
      subst e
      exact I1.fpOk (Nat.le_refl _) (I1.hok.fresh (Nat.le_refl _))
  | str z =>
    cases e1
    cases rq
    obtain ⟨t, rfl⟩ := r1
    cases ha : z.cps.all (· < 128)
    · exact wpAny_pyIter_wide ha (pi_one (tk := s1.toks) I1 _ (turn_str _ z t "str_iterator" (.inr rfl)) ⟨_, Heap.get?_push_size _ rfl, rfl, rfl⟩ (hR _ itr_str))
    · exact wpAny_pyIter_ascii ha (pi_one (tk := s1.toks) I1 _ (turn_str _ z t "str_ascii_iterator" (.inl rfl)) ⟨_, Heap.get?_push_size _ rfl, rfl, rfl⟩ (hR _ itr_str))
  | _ => cases e1
theorem di_r1 (B : Bi X.mg) (ha : DA X W [a] dl) (hg : Gl X "range" := by rfl) (hs : starEach [a] X.env = [(false, eval a X.env)] := by rfl) : DI X W tg (.Call (.Name "range" p) [a] [] pos) (iR1 dl) :=
  DI.of (pi_range1 hg B.range ha hs) fun H₀ S₀ M S σ H ρ Q ab hp => canon_ok.bind (Rl' := rIt X.K) ab hp fun ps ρ1 vs S1 H1 _ a1 _ r1 hp => by
    split at hp
    · split at hp
      · rename_i hz
        simp only [Bool.and_eq_true, decide_eq_true_eq] at hz
        cases r1 with
        | cons r2 r3 =>
          cases r3; cases r2
          exact ⟨_, rfl, hz.1, hz.2, hp _ S1 H1 a1 itr_range⟩
      · exact hp.elim
    · exact hp.elim
theorem di_r2 (B : Bi X.mg) (ha : DA X W [a, b] dl) (hg : Gl X "range" := by rfl) (hs : starEach [a, b] X.env = [(false, eval a X.env), (false, eval b X.env)] := by rfl) (hs2 : starEach [b] X.env = [(false, eval b X.env)] := by rfl) : DI X W tg (.Call (.Name "range" p) [a, b] [] pos) (iR2 dl) :=
  DI.of (pi_range2 hg B.range ha hs hs2) fun H₀ S₀ M S σ H ρ Q ab hp => canon_ok.bind (Rl' := rIt X.K) ab hp fun ps ρ1 vs S1 H1 _ a1 _ r1 hp => by
    split at hp
    · split at hp
      · rename_i hz
        simp only [Bool.and_eq_true, decide_eq_true_eq] at hz
        cases r1 with
        | cons r2 r3 =>
          cases r3 with
          | cons r4 r5 =>
            cases r5; cases r2; cases r4
            exact ⟨_, _, rfl, ⟨hz.1.1, hz.1.2, hz.2.1, hz.2.2⟩, hp _ S1 H1 a1 itr_range⟩
      · exact hp.elim
    · exact hp.elim
theorem di_enum (B : Bi X.mg) (ha : DA X W [e] dl) (hg : Gl X "enumerate" := by rfl) (hs : starEach [e] X.env = [(false, eval e X.env)] := by rfl) : DI X W (.Tuple elts kk tpos) (.Call (.Name "enumerate" p) [e] [] pos) (iEnu dl) :=
  DI.of (pi_enum hg B.enumerate ha hs) fun H₀ S₀ M S σ H ρ Q ab hp => canon_ok.bind (Rl' := rIt X.K) ab hp fun ps ρ1 vs S1 H1 _ a1 _ r1 hp => by
    split at hp
    · cases r1 with
      | cons r2 r3 =>
        cases r3
        cases r2 with
        | lst h1 h2 => exact ⟨_, _, rfl, .inl (.inl (a1.sub _ _ h1)), hp _ S1 H1 a1 (itr_enum a1.sub h1 h2)⟩
    · exact hp.elim
theorem di_zip (B : Bi X.mg) (ha : DA X W [e, a] dl) (hg : Gl X "zip" := by rfl) (hs : starEach [e, a] X.env = (false, eval e X.env) :: starEach [a] X.env := by rfl) (hpl : (backTo pos (starEach [a] X.env)).any (·.1) = false := by rfl) : DI X W (.Tuple elts kk tpos) (.Call (.Name "zip" p) [e, a] [] pos) (iZp dl) :=
  DI.of (pi_zip hg B.zip ha hs hpl) fun H₀ S₀ M S σ H ρ Q ab hp => canon_ok.bind (Rl' := rIt X.K) ab hp fun ps ρ1 vs S1 H1 _ a1 _ r1 hp => by
    split at hp
    · cases r1 with
      | cons r2 r3 =>
        cases r3 with
        | cons r4 r5 =>
          cases r5
          cases r2 with
          | lst h1 h2 =>
            cases r4 with
            | lst h3 h4 => exact ⟨_, _, _, _, rfl, .inl (.inl (a1.sub _ _ h1)), .inl (.inl (a1.sub _ _ h3)), hp _ S1 H1 a1 (itr_zip a1.sub h1 h2 h3 h4)⟩
    · exact hp.elim
theorem di_rev (B : Bi X.mg) (ha : DA X W [e] dl) (hg : Gl X "reversed" := by rfl) (hs : starEach [e] X.env = [(false, eval e X.env)] := by rfl) : DI X W tg (.Call (.Name "reversed" p) [e] [] pos) (iRv dl) :=
  DI.of (pi_reversed hg B.reversed ha hs) fun H₀ S₀ M S σ H ρ Q ab hp => canon_ok.bind (Rl' := rIt X.K) ab hp fun ps ρ1 vs S1 H1 _ a1 _ r1 hp => by
    split at hp
    · cases r1 with
      | cons r2 r3 =>
        cases r3
        cases r2 with
        | lst h1 h2 => exact ⟨_, _, rfl, .inl (.inl (a1.sub _ _ h1)), hp _ S1 H1 a1 (itr_rev a1.sub h1 h2)⟩
    · exact hp.elim

/-! ### targets -/
structure DG (X : Cx) (tg : Expr) (g : TG) (dg : DenG) : Prop where
  pg : PG X tg g
  ok : GOk X.K g dg
  mono : GMono g
structure DGs (X : Cx) (tgs : List Expr) (g : TGs) (dg : List PV → Env → Option Env) (n : Nat) : Prop where
  pg : PGs X tgs g
  ok : GsOk X.K g dg
  mono : GsMono g
  len : ∀ ps ρ ρ', dg ps ρ = some ρ' → ps.length = n
theorem dg_name {W : WX} (c : Ctx X W k) (i : Nat) (hi : X.N[i]? = some x := by rfl) (hx : Loc X.env.scope x := by first | exact Or.inl rfl | exact Or.inr rfl) (hf : X.fn x = true ∨ X.env.scope.names.lookup x = some .local := by first | exact .inl rfl | exact .inr rfl) : DG X (.Name x pos) (L2.gName i) (gName i) :=
  ⟨pg_name c.nd hi hx hf, go_name, gm_name⟩
theorem dgs_nil : DGs X [] L2.gNil gsNil 0 := ⟨pgs_nil, gso_nil, gms_nil, gsNil_len⟩
theorem dgs_cons {g : TG} {dg : DenG} {gs : TGs} {dgs : List PV → Env → Option Env} {n : Nat} (h1 : DG X e g dg) (h2 : DGs X es gs dgs n) (hs : (assignEach (e :: es) X.env).map (·.2) = assign e X.env :: (assignEach es X.env).map (·.2) := by rfl) : DGs X (e :: es) (L2.gCons g gs) (gsCons dg dgs) (n + 1) :=
  ⟨pgs_cons h1.pg h2.pg hs, gso_cons h1.ok h2.ok, gms_cons h1.mono h2.mono, gsCons_len h2.len⟩
theorem dg_tup {W : WX} (c : Ctx X W k) {gs : TGs} {dgs : List PV → Env → Option Env} {n : Nat} (h : DGs X es gs dgs n) (hn : (assignEach es X.env).length = n := by rfl) (hst : (assignEach es X.env).findIdx? (·.1) = none := by rfl) : DG X (.Tuple es kk pos) (L2.gTup X.K n gs) (gTup dgs) :=
  ⟨pg_tup c.calm h.pg hn hst, go_tup h.ok h.len, gm_tup h.mono⟩

/-! ### comprehensions -/
structure LG (K : PySem.W.Frag) (own : List Nat) (g : TG) (dg : DenG) : Prop where
  ok : GOk K g dg
  mono : GMono g
  w : TgW own g
structure LGs (K : PySem.W.Frag) (own : List Nat) (g : TGs) (dg : List PV → Env → Option Env) (n : Nat) : Prop where
  ok : GsOk K g dg
  mono : GsMono g
  len : ∀ ps ρ ρ', dg ps ρ = some ρ' → ps.length = n
  w : TgsW own g
theorem lg_name {K : PySem.W.Frag} {own : List Nat} (i : Nat) (h : i ∈ own := by decide) : LG K own (L2.gName i) (gName i) := ⟨go_name, gm_name, tw_name h⟩
theorem lgs_nil {K : PySem.W.Frag} {own : List Nat} : LGs K own L2.gNil gsNil 0 := ⟨gso_nil, gms_nil, gsNil_len, tws_nil⟩
theorem lgs_cons {K : PySem.W.Frag} {own : List Nat} {gs : TGs} {dgs : List PV → Env → Option Env} {n : Nat} (i : Nat) (h2 : LGs K own gs dgs n) (h : i ∈ own := by decide) : LGs K own (L2.gCons (L2.gName i) gs) (gsCons (gName i) dgs) (n + 1) :=
  ⟨gso_cons go_name h2.ok, gms_cons gm_name h2.mono, gsCons_len h2.len, tws_name h h2.w⟩
theorem lg_tup {K : PySem.W.Frag} {own : List Nat} {gs : TGs} {dgs : List PV → Env → Option Env} {n : Nat} (h : LGs K own gs dgs n) : LG K own (L2.gTup K n gs) (gTup dgs) := ⟨go_tup h.ok h.len, gm_tup h.mono, tw_tup h.w⟩
def bYes : DenB := fun ρ => .ok true ρ
theorem dts_nil : DTs X W [] bYes := DTs.of pts_nil fun H₀ S₀ M S σ H ρ Q ab hp => hp true S H ab rfl
theorem dts_one {dt : DenB} (h : DT X W e dt) : DTs X W [e] dt := DTs.of (pts_one h) canon_ok
theorem df_lc {elt tg iter : Expr} {ifs : List Expr} {scope : Scope} {g : TG} {dg : DenG} {dt : DenB} {de : Den} (own : List (Str × Nat)) (c : Ctx X W k) (hi : DI X W tg iter dl) (hl : LG X.K (own.map (·.2)) g dg)
    (hg : ∀ (s : Shared) (H : Hp) (C : Addr) (cl : List (Str × Addr)) (fp : List Addr), DG (X.blk s H scope (PySem.compEnvC scope cl C X.env) fp) tg g dg) (ht : ∀ (s : Shared) (H : Hp) (C : Addr) (cl : List (Str × Addr)) (fp : List Addr), DTs (X.blk s H scope (PySem.compEnvC scope cl C X.env) fp) (fun _ _ _ _ => False) ifs dt)
    (he : ∀ (s : Shared) (H : Hp) (C : Addr) (cl : List (Str × Addr)) (fp : List Addr), DE (X.blk s H scope (PySem.compEnvC scope cl C X.env) fp) (fun _ _ _ _ => False) elt de) (ok : BlkOk X.N X.env.scope scope own := by exact blkOk_by (by decide +kernel)) (hs : ∀ x, foldedSetIterable iter X.env x = pure x := by intro _; rfl) :
    DF X W (.ListComp elt [⟨tg, iter, ifs, 0⟩] scope pos) (dLc (own.map (·.2)) dl dg dt de) :=
  DF.of (pe_lc c.calm c.nd hi ok (fun s H C cl fp => (hg s H C cl fp).pg) ht he hs) (fo_lc canon_ok hl.ok hl.w hl.mono canon_ok canon_ok)

/-! ### statements -/
variable {st : Stmt} {sts rest s2 : List Stmt} {d1 d2 : DenS} {du : DenB} {db : Den}
theorem dss_nil : DSs X W fr [] sNx := DSs.of pss_nil so_nx
theorem dss_cons (h1 : DS X W fr st d1) (h2 : DSs X W fr rest d2) : DSs X W fr (st :: rest) (sSeq d1 d2) := DSs.of (pss_cons h1 h2) (so_seq canonS_ok canonS_ok)
theorem dss_one (h1 : DS X W fr st d1) : DSs X W fr [st] d1 := pss_one h1
theorem ds_pass : DS X W fr (.Pass pos) sNx := DS.of ps_pass so_nx
theorem ds_brk : DS X W fr (.Break pos) sBk := DS.of ps_break so_bk
theorem ds_cont : DS X W fr (.Continue pos) sCt := DS.of ps_continue so_ct
theorem ds_expr (h : DE X W e da) (hs : swapsWith e none pos.line X.env = pure false := by rfl) : DS X W fr (.Expr e pos) (sExpr da) := DS.of (ps_expr h hs) (so_expr canon_ok)
theorem ds_ret (h : DE X W e da) : DS X W false (.Return (some e) pos) (sRet da) := DS.of (ps_ret h) (so_ret canon_ok)
theorem ds_retF (h : DF X W e da) : DS X W true (.Return (some e) pos) (sRet da) := DS.of (ps_ret h) (so_retF canon_ok)
theorem ds_retO (i : Nat) (h : PE X (.Name x p) (tVar i)) : DS X W true (.Return (some (.Name x p)) pos) (sRetO i) := DS.of (ps_ret h) so_retO
theorem ds_retN : DS X W false (.Return none pos) sRetN := DS.of ps_retN so_retN
theorem ds_if (hc : DT X W e du) (h1 : DSs X W fr sts d1) (h2 : DSs X W fr s2 d2) : DS X W fr (.If e sts s2 pos) (sIf du d1 d2) := DS.of (ps_if hc h1 h2) (so_if canon_ok canonS_ok canonS_ok)
theorem ds_set (c : Ctx X W k) (i : Nat) (h : DE X W e da) (hi : X.N[i]? = some x := by rfl) (hx : Loc X.env.scope x := by first | exact Or.inl rfl | exact Or.inr rfl) (hs : swapsWith e (some (.Name x p)) pos.line X.env = pure false := by rfl) (hf : X.fn x = true ∨ X.env.scope.names.lookup x = some .local := by first | exact .inl rfl | exact .inr rfl) :
    DS X W fr (.Assign [.Name x p] e pos) (sSet i da) := DS.of (ps_set c.nd hi hx h hs hf) (so_set canon_ok)
theorem ds_setF (c : Ctx X W k) (i : Nat) (h : DF X W e da) (hi : X.N[i]? = some x := by rfl) (hx : Loc X.env.scope x := by first | exact Or.inl rfl | exact Or.inr rfl) (hs : swapsWith e (some (.Name x p)) pos.line X.env = pure false := by rfl) (hf : X.fn x = true ∨ X.env.scope.names.lookup x = some .local := by first | exact .inl rfl | exact .inr rfl) :
    DS X W fr (.Assign [.Name x p] e pos) (sSetF i da) := DS.of (ps_set c.nd hi hx h hs hf) (so_setF canon_ok)
/-- y = [..], y a plain local -/
theorem ds_setLcF {elt tg iter : Expr} {ifs : List Expr} {scope : Scope} {g : TG} {dg : DenG} {dt : DenB} {de : Den} (i : Nat) (own : List (Str × Nat)) (c : Ctx X W k) (hi : DI X W tg iter dl) (hl : LG X.K (own.map (·.2)) g dg)
    (hg : ∀ (s : Shared) (H : Hp) (C : Addr) (cl : List (Str × Addr)) (fp : List Addr), DG (X.blk s H scope (PySem.compEnvC scope cl C X.env) fp) tg g dg) (ht : ∀ (s : Shared) (H : Hp) (C : Addr) (cl : List (Str × Addr)) (fp : List Addr), DTs (X.blk s H scope (PySem.compEnvC scope cl C X.env) fp) (fun _ _ _ _ => False) ifs dt)
    (he : ∀ (s : Shared) (H : Hp) (C : Addr) (cl : List (Str × Addr)) (fp : List Addr), DE (X.blk s H scope (PySem.compEnvC scope cl C X.env) fp) (fun _ _ _ _ => False) elt de) (hy : X.N[i]? = some x := by rfl) (hyl : X.env.scope.names.lookup x = some .local := by rfl)
    (hsw : swapsWith (.ListComp elt [⟨tg, iter, ifs, 0⟩] scope p2) (some (.Name x p)) pos.line X.env = pure true := by exact sw_true rfl rfl rfl (by decide +kernel)) (ok : BlkOk X.N X.env.scope scope own := by exact blkOk_by (by decide +kernel)) (hs : ∀ x, foldedSetIterable iter X.env x = pure x := by intro _; rfl) :
    DS X W fr (.Assign [.Name x p] (.ListComp elt [⟨tg, iter, ifs, 0⟩] scope p2) pos) (sSetF i (dLc (own.map (·.2)) dl dg dt de)) :=
  DS.of (ps_setLc c.calm c.nd hy hyl hsw hi ok (fun s H C cl fp => (hg s H C cl fp).pg) ht he hs) (so_setF (fo_lc canon_ok hl.ok hl.w hl.mono canon_ok canon_ok))
theorem ds_setLc {elt tg iter : Expr} {ifs : List Expr} {scope : Scope} {g : TG} {dg : DenG} {dt : DenB} {de : Den} (i : Nat) (own : List (Str × Nat)) (c : Ctx X W k) (hi : DI X W tg iter dl) (hl : LG X.K (own.map (·.2)) g dg)
    (hg : ∀ (s : Shared) (H : Hp) (C : Addr) (cl : List (Str × Addr)) (fp : List Addr), DG (X.blk s H scope (PySem.compEnvC scope cl C X.env) fp) tg g dg) (ht : ∀ (s : Shared) (H : Hp) (C : Addr) (cl : List (Str × Addr)) (fp : List Addr), DTs (X.blk s H scope (PySem.compEnvC scope cl C X.env) fp) (fun _ _ _ _ => False) ifs dt)
    (he : ∀ (s : Shared) (H : Hp) (C : Addr) (cl : List (Str × Addr)) (fp : List Addr), DE (X.blk s H scope (PySem.compEnvC scope cl C X.env) fp) (fun _ _ _ _ => False) elt de) (hy : X.N[i]? = some x := by rfl) (hyl : X.env.scope.names.lookup x = some .local := by rfl)
    (hsw : swapsWith (.ListComp elt [⟨tg, iter, ifs, 0⟩] scope p2) (some (.Name x p)) pos.line X.env = pure true := by exact sw_true rfl rfl rfl (by decide +kernel)) (ok : BlkOk X.N X.env.scope scope own := by exact blkOk_by (by decide +kernel)) (hs : ∀ x, foldedSetIterable iter X.env x = pure x := by intro _; rfl) :
    DS X W fr (.Assign [.Name x p] (.ListComp elt [⟨tg, iter, ifs, 0⟩] scope p2) pos) (sSet i (dLc (own.map (·.2)) dl dg dt de)) :=
  DS.of (ps_setLc c.calm c.nd hy hyl hsw hi ok (fun s H C cl fp => (hg s H C cl fp).pg) ht he hs) (so_set (fo_lc canon_ok hl.ok hl.w hl.mono canon_ok canon_ok).shared)
theorem ds_asg {g : TG} {dg : DenG} (h : DE X W e da) (hg : DG X tg g dg) (hs : swapsWithSole [tg] e pos.line X.env = pure false := by rfl) (hw : swappedStores [tg] e X.env = pure none := by rfl) (h1 : (assignEach [tg] X.env).map (·.2) = [assign tg X.env] := by rfl) :
    DS X W fr (.Assign [tg] e pos) (sAsg da dg) := DS.of (ps_asg h hg.pg hs hw h1) (so_asg canon_ok hg.ok)
/-- x[a] = e, x an owned list in a slot -/
theorem ds_sub (i : Nat) (ho : PE X (.Name x p) (tVar i)) (hi : DE X W a db) (h : DE X W e da)
    (ha : ∀ v, assign (.Subscript (.Name x p) a p2) X.env v = (do
      let ov ← holding [v] (eval (.Name x p) X.env)
      let iv ← holding [v, ov] (eval a X.env)
      standAt p2
      holding [v, ov, iv] (setItem ov iv v)
      release [v, ov, iv] []) := by intro _; rfl) (hs : swapsWithSole [.Subscript (.Name x p) a p2] e pos.line X.env = pure false := by rfl) (hw : swappedStores [.Subscript (.Name x p) a p2] e X.env = pure none := by rfl) (h1 : (assignEach [.Subscript (.Name x p) a p2] X.env).map (·.2) = [assign (.Subscript (.Name x p) a p2) X.env] := by rfl) :
    DS X W fr (.Assign [.Subscript (.Name x p) a p2] e pos) (sSub gSetL i db da) := DS.of (ps_asg h (pg_sub ho hi set_list ha) hs hw h1) (so_sub canon_ok canon_ok st_list)
def gAugAdd : PV → PV → Option PV
  | .int i, .int j => some (.int (i + j))
  | .str x, .str y => if x.length + y.length ≤ sizeLine then some (.str (x ++ y)) else none
  | _, _ => none
def rAugAdd : R2 := fun x y H Q => (∃ i j, x = .int i ∧ y = .int j ∧ Q (.int (i + j)) H) ∨ (∃ i j, x = .str i ∧ y = .str j ∧ i.length + j.length ≤ sizeLine ∧ Q (.str (i ++ j)) H)
theorem v2_augAdd {K : PySem.W.Frag} : V2 K rAugAdd gAugAdd := by
  intro S H x y p q z Q s rx ry e k
  unfold gAugAdd at e
  split at e
  · cases rx; cases ry; cases e
    exact .inl ⟨_, _, rfl, rfl, k _ S H (Step.refl s) (.int _)⟩
  · split at e
    · rename_i hz
      cases rx; cases ry; cases e
      exact .inr ⟨_, _, rfl, rfl, hz, k _ S H (Step.refl s) (.str _)⟩
    · cases e
  · cases e
theorem augAdd_sc : ∀ p q z, gAugAdd p q = some z → z.sc = true := by
  intro p q z e
  unfold gAugAdd at e
  split at e
  · cases e; rfl
  · split at e
    · cases e; rfl
    · cases e
  · cases e
theorem gSub_sc : ∀ p q z, gSub p q = some z → z.sc = true := by
  intro p q z e
  unfold gSub at e
  split at e
  · cases e; rfl
  · cases e
theorem pip_or {op : Operator} {r r' : TIp} (h : PIp X op r) (h' : PIp X op r') : PIp X op (fun x y H Q => r x y H Q ∨ r' x y H Q) := by
  intro pins s σ H x y v u Q I rx ry q
  rcases q with q | q
  · exact h pins s σ H x y v u Q I rx ry q
  · exact h' pins s σ H x y v u Q I rx ry q
theorem pip_add : PIp X .Add rAugAdd := pip_or (fun pins s σ H x y v u Q I rx ry q => iop_add pins s σ H x y v u Q I rx ry q) fun pins s σ H x y v u Q I rx ry q => iop_add_str pins s σ H x y v u Q I rx ry q
theorem ds_augAdd (c : Ctx X W k) (i : Nat) (h : DE X W e da) (hi : X.N[i]? = some x := by rfl) (hx : Loc X.env.scope x := by first | exact Or.inl rfl | exact Or.inr rfl) (hf : X.fn x = true ∨ X.env.scope.names.lookup x = some .local := by first | exact .inl rfl | exact .inr rfl) :
    DS X W fr (.AugAssign (.Name x p) .Add e pos) (sAug i gAugAdd da) := DS.of (ps_aug c.nd hi hx h pip_add hf) (so_aug canon_ok v2_augAdd augAdd_sc)
theorem ds_augSub (c : Ctx X W k) (i : Nat) (h : DE X W e da) (hi : X.N[i]? = some x := by rfl) (hx : Loc X.env.scope x := by first | exact Or.inl rfl | exact Or.inr rfl) (hf : X.fn x = true ∨ X.env.scope.names.lookup x = some .local := by first | exact .inl rfl | exact .inr rfl) :
    DS X W fr (.AugAssign (.Name x p) .Sub e pos) (sAug i gSub da) := DS.of (ps_aug c.nd hi hx h (fun pins s σ H x y v u Q I rx ry q => iop_sub pins s σ H x y v u Q I rx ry q) hf) (so_aug canon_ok v2_sub gSub_sc)
/-- what lets out what is raised -/
abbrev Po (X : Cx) : Prop := PassesOwn (model X.prog X.w) X.A X.env X.xe
theorem ds_for {g : TG} {dg : DenG} (hp : Po X) (c : Ctx X W k) (hi : DI X W tg e dl) (hg : DG X tg g dg) (hb : DSs X W fr sts d1) (hs : ∀ x, foldedSetIterable e X.env x = pure x := by intro _; rfl) : DS X W fr (.For tg e sts [] pos) (sFor dl dg d1) :=
  DS.of (ps_for hp c.calm hi hg.pg hb hs) (so_for canon_ok hg.ok canonS_ok)
theorem ds_while (μ : Env → Nat) (hp : Po X) (hc : DT X W e du) (hb : DSs X W fr sts d1) : DS X W fr (.While e sts [] pos) (sWhile μ du d1) :=
  DS.of (ps_while hp hc hb) (so_while canon_ok canonS_ok)
end
/-- THE RULE for a def, over pieces of syntax -/
theorem fd_ok {P : Program} {w : World} {K : PySem.W.Frag} {mg : Str → Option Value} {base : Heap} {x qual : Str} {st : Stmt} {f : Addr} {fd : FuncData} {N ps : List Str} {k : Nat} {io fr : Bool} {d : DenS} (F : Fun K x qual st f fd) (hm : mg x = some (.ref f)) (S : FnScope N ps (defScope st))
    (hb : Binds K fd ps []) (hl : ps.length ≤ N.length)
    (hbody : ∀ (cdv : Value) (A : Around) (outer : List PySem.Env) (s : Shared) (H : Hp) (E : XK), Ctx (cxOf (L2.CX P w) P w K mg base N qual (defScope st) f cdv A outer s H E) (fun cls dd _ H => E cls dd H) k → Po (cxOf (L2.CX P w) P w K mg base N qual (defScope st) f cdv A outer s H E) →
      DSs (cxOf (L2.CX P w) P w K mg base N qual (defScope st) f cdv A outer s H E) (fun cls dd _ H => E cls dd H) fr (defBody st) d) :
    Fd P w K mg base x (k + 1) io fr ps.length (runD io fr ps.length N.length d) := by
  refine ⟨⟨f, fd, ps, fn_ok F S hl fun cdv A outer s H E hr => ⟨_, hbody cdv A outer s H E ⟨rfl, S.nd, hr, takes_of rfl rfl rfl rfl⟩ (passes_of rfl), canonS_ok⟩, hm, F.kp, hb⟩, fun qs h => ?_⟩
  unfold runD at h
  by_cases e : qs.length = ps.length
  · exact e
  · rw [if_neg e] at h
    exact absurd rfl h
theorem Fd.eq {P : Program} {w : World} {K : PySem.W.Frag} {mg : Str → Option Value} {base : Heap} {x : Str} {k n : Nat} {io fr : Bool} {F G : List PV → FR} (h : Fd P w K mg base x k io fr n F) (e : ∀ ps, G ps ≠ .bad → F ps = G ps) : Fd P w K mg base x k io fr n G := by
  obtain ⟨f, fd, ps, h1, h2, h3, h4⟩ := h.ex
  exact ⟨⟨f, fd, ps, fn_eq h1 e, h2, h3, h4⟩, fun qs hq => h.len qs (by rw [e qs hq]; exact hq)⟩
end PL

set_option Elab.async false
set_option linter.all false
set_option maxRecDepth 100000
set_option maxHeartbeats 4000000
namespace PL
open PySem PySem.Spec L2
open PyProof.Rows hiding St
set_option autoImplicit false

/-! ### try with several clauses 'except x as n' that share the name n -/
/-- what stands behind a clause: the name's slot is empty -/
def gone (i : Nat) (D : Ends) : Ends := ⟨fun τ G => D.nx (τ.set i none) G, D.rt, fun τ G => D.bk (τ.set i none) G, fun τ G => D.ct (τ.set i none) G⟩
/-- a clause: its class, what its suite is worth -/
abbrev Clause := Value × (Addr → Value → Option Addr → TS)
def wCl (K : PySem.W.Frag) (out : WX) (D : Ends) (i : Nat) : List Clause → WX
  | [] => out
  | (c, ts) :: more => fun cls d τ G => ∃ hit, PySem.W.exmOne K cls c = some hit ∧
      (hit = true → ∀ a, G a = none → ts a cls d (gone i D) (τ.set i (some (.ref a))) G) ∧ (hit = false → wCl K out D i more cls d τ G)
inductive Clauses (X : Cx) (n : Str) : List ExceptHandler → List Clause → Prop
  | nil : Clauses X n [] []
  | cons {y : Str} {c : Value} {ts : Addr → Value → Option Addr → TS} {b : Stmt} {bs : List Stmt} {q q' : Pos} {hs : List ExceptHandler} {cl : List Clause} : Names X y c →
      (∀ (a : Addr) (ob : Obj) (cls : Value) (d : Option Addr) (pn : List (Addr × Obj)), Zc cls d ob → (∃ vs, ob.data = .fields vs) → PSs (X.suite a ((a, ob) :: pn)) (b :: bs) (ts a cls d)) →
      Clauses X n hs cl → Clauses X n (.ExceptHandler (some (.Name y q)) (some n) (b :: bs) q' :: hs) ((c, ts) :: cl)
section
variable {X : Cx} {n : Str} {i : Nat} {out : WX} {D : Ends} {pins : List (Addr × Obj)} {a : Addr} {B : Heap} {cls : Value} {d : Option Addr} {τ : L2.St} {G : Hp} {sI s' : Shared}
/-- where a caught exception stands: what its clauses lean on -/
structure Caught (X : Cx) (pins : List (Addr × Obj)) (a : Addr) (B : Heap) (cls : Value) (d : Option Addr) (τ : L2.St) (G : Hp) (sI s' : Shared) : Prop where
  inv : Inv X pins τ G sI
  ground : ∀ b o, sI.heap.get? b = some o → b ∉ frs X.stack → B.get? b = some o
  up : sI.heap.UpToSlots s'.heap
  na : G a = none
  os : s'.os = sI.os
  bare : AllBare s'.gens
theorem Caught.suite (k : Caught X pins a B cls d τ G sI s') (hstk : X.stack = X.env :: X.outer) (hfr : X.env.frame = some X.env.locals) {g : Heap} (fly : HandSPX.FlyingZ B (X.env :: X.outer) a (Zc cls d) g) (u : s'.heap.UpToSlots g) :
    ∃ ob, g.get? a = some ob ∧ Zc cls d ob ∧ (∃ vs, ob.data = .fields vs) ∧ Inv X pins τ G { s' with heap := g } ∧ Inv (X.suite a ((a, ob) :: (X.pn ++ pins))) [] τ G { s' with heap := g } := by
  have J : Inv X pins τ G { s' with heap := g } := k.inv.landed (s' := { s' with heap := g }) k.ground fly.1 (k.up.trans u) k.os k.bare
  obtain ⟨ob, vs, e1, e2, e3⟩ := fly.there
  have far : a ∉ frs (X.env :: X.outer) := fun m => by
    obtain ⟨_, o2, z1, z2⟩ := fly.2.2.1.mem m
    rw [e1] at z1
    cases z1
    exact z2 _ e3
  refine ⟨ob, e1, e2, ⟨vs, e3⟩, J, J.suite e1 e3 k.na (fun z => far ?_) fun m => far ?_⟩
  · exact List.mem_filterMap.mpr ⟨X.env, List.mem_cons_self, by rw [hfr, z]⟩
  · obtain ⟨env, m1, m2⟩ := List.mem_filterMap.mp m
    exact List.mem_filterMap.mpr ⟨env, List.mem_cons_of_mem _ m1, m2⟩
theorem clauses_run (hN : X.N.Nodup) (hi : X.N[i]? = some n) (hln : X.env.kindOf n = some .local) (hstk : X.stack = X.env :: X.outer) (hfr : X.env.frame = some X.env.locals) (tk : Takes X out)
    (k : Caught X pins a B cls d τ G sI s') {g : Heap} (fly : HandSPX.FlyingZ B (X.env :: X.outer) a (Zc cls d) g) (u : s'.heap.UpToSlots g) {hs : List ExceptHandler} {cl : List Clause} (h : Clauses X n hs cl) :
    wCl X.K out D i cl cls d τ G → wpAny (model X.prog X.w) X.A (handleBy (.ref a) X.env hs) (SP X pins D) X.xe { s' with heap := g } := by
  obtain ⟨ob, e1, e2, e3, J, JS⟩ := k.suite hstk hfr fly u
  induction h with
  | nil =>
    intro w
    refine wpAny_handleBy_nil ?_
    obtain ⟨_, _, _, o1, flds, T, _, _, f1, _, f2, f3, _⟩ := id fly
    unfold PySem.passOn
    refine wpAny_bind (PySem.wpAny_field f1 f2 f3 ?_)
    have nn : ¬ ((Value.ref T == Value.none) = true) := by simp
    rw [if_neg nn]
    have again : wpAny (model X.prog X.w) X.A (setFlight (.ref a) X.env.frame) (fun _ s4 => wpAny (model X.prog X.w) X.A (throw (.ref a) : Sem Flow) (SP X pins D) X.xe s4) X.xe { s' with heap := g } := by
      rw [hfr]
      refine HandSPX.setFlight_upZ fly fun g2 held u2 => wpAny_throw (tk _ _ ?_)
      refine ⟨a, B, sI, pins, τ, G, cls, d, rfl, k.inv, k.ground, (k.up.trans u).trans u2, .inr (.inr ?_), k.na, k.os, k.bare, w⟩
      rw [hstk]
      exact held
    first
      | exact wpAny_bind (wpAny_pure (wpAny_bind again))
      | exact wpAny_bind again
  | @cons y c ts b bs q q' more cl' names suite _ ih =>
    rintro ⟨hit, exm, yes, no⟩
    refine wpAny_handleBy_cons (codeAny_handlers_test ?_) (by intro z; cases z)
    have ty : PySem.W.Looks (model X.prog X.w) g (typeOf (.ref a)) cls := fun A Q E s kk qq => PySem.wpAny_typeOf_ref (kk _ _ e1) (by rw [e2.1]; exact qq)
    have look := PySem.W.exm_one (M := model X.prog X.w) J.kIn ty exm
    have named : ∀ {Q : Value → Shared → Prop} {E : Value → Shared → Prop}, Q c { s' with heap := g } → wpAny (model X.prog X.w) (X.A.mark (some (.ref a))) (eval (.Name y q) X.env) Q E { s' with heap := g } := fun {Q E} qq => by
      obtain ⟨g1, g2, g3⟩ := names
      rcases g3 with g3 | ⟨g3, g4, g5⟩
      · exact ld_glob (X := X.suite a ((a, ob) :: (X.pn ++ pins))) JS g1 g3 qq g2
      · exact ld_blt (X := X.suite a ((a, ob) :: (X.pn ++ pins))) JS g1 g3 g4 qq g5 g2
    refine named (look.here ?_)
    cases hit with
    | false => exact ih (no rfl)
    | true =>
      refine codeAny_handlers_suite_as (HandSPX.lands_againZ fly fun g2 fly2 u2 => ?_)
      obtain ⟨ob2, _, z2, z3, _, JS2⟩ := k.suite hstk hfr fly2 (u.trans u2)
      refine store_ok (X := X.suite a ((a, ob2) :: (X.pn ++ pins))) (v := .ref a) JS2 hN hi (.inl hln) rfl (fun s5 J5 => ?_) (.inr hln)
      have body := (suite a ob2 cls d (X.pn ++ pins) z2 z3).run [] s5 _ G _ J5 (yes rfl a k.na)
      refine wpAny_mono body (fun f s6 sp => ?_) fun _ _ z => z.elim
      have leave : ∀ {τ6 : L2.St} {G6 : Hp} {Q : Shared → Prop}, Inv (X.suite a ((a, ob2) :: (X.pn ++ pins))) [] τ6 G6 s6 → (∀ s7, Inv X pins (τ6.set i none) G6 s7 → Q s7) →
          wpAny (model X.prog X.w) X.A (do bindName X.env n .none; unbindBehindTheSuite X.env n q') (fun _ s7 => Q s7) X.xe s6 := fun J6 hq => gone_ok (J6.unsuite k.inv.ok) hN hi hln hq
      match f, sp with
      | .next, ⟨_, _, J6, q6⟩ => exact leave J6 fun s7 J7 => ⟨_, _, J7, q6⟩
      | .brk, ⟨_, _, J6, q6⟩ => exact leave J6 fun s7 J7 => ⟨_, _, J7, q6⟩
      | .cont, ⟨_, _, J6, q6⟩ => exact leave J6 fun s7 J7 => ⟨_, _, J7, q6⟩
      | .ret v, ⟨_, _, _, J6, r6, q6⟩ => exact leave J6 fun s7 J7 => ⟨_, _, _, J7, r6, q6⟩
theorem ps_tryN {body : List Stmt} {h₀ : ExceptHandler} {hs : List ExceptHandler} {cl : List Clause} {pos : Pos} {tb : WX → TS} (hN : X.N.Nodup) (hi : X.N[i]? = some n) (hln : X.env.kindOf n = some .local) (hstk : X.stack = X.env :: X.outer) (hfr : X.env.frame = some X.env.locals) (tk : Takes X out)
    (hb : ∀ (W : WX) (pn : List (Addr × Obj)) (xe : Value → Shared → Prop), Takes (X.tr pn xe) W → PassesOwn (model X.prog X.w) X.A X.env xe → PSs (X.tr pn xe) body (tb W)) (hh : Clauses X n (h₀ :: hs) cl) :
    PS X (.Try body (h₀ :: hs) [] [] pos) (fun D σ H => tb (wCl X.K out D i cl) D σ H) := ⟨fun pins s σ H D I h => by
  have ok := I.ok
  let caught : Value → Shared → Prop := fun e s₁ => wpAny (model X.prog X.w) X.A (noteFrame e X.env) (fun _ s₂ => wpAny (model X.prog X.w) X.A (setFlight e none) (fun _ s₃ => wpAny (model X.prog X.w) X.A (handleBy e X.env (h₀ :: hs)) (SP X pins D) X.xe s₃) X.xe s₂) X.xe s₁
  have takes : Takes (X.tr (X.pn ++ pins) caught) (wCl X.K out D i cl) := by
    rintro e s' ⟨a, B, sI, pn, τ, G, cls, d, rfl, J, nb, up, sky, na, os, ag, w⟩
    have sky' : Sky B (X.env :: X.outer) a (Zc cls d) X.env.locals s'.heap := hstk ▸ sky
    show wpAny (model X.prog X.w) X.A (noteFrame (.ref a) X.env) _ _ _
    exact Sky.land Zc.steady (by rw [ok.frames, hstk]) hfr sky' fun g fly u => clauses_run hN hi hln hstk hfr tk ⟨J.ofTry ok, nb, up, na, os, ag⟩ fly u hh w
  refine wpAny_Try_except (wpAny_mono ((hb _ (X.pn ++ pins) caught takes PassesOwn.looking).run [] s σ H D (I.toTry caught) h) (fun f s1 sp => ?_) fun e s1 he => he)
  match f, sp with
  | .next, ⟨_, _, J, q⟩ => exact wpAny_execs_nil ⟨_, _, J.ofTry ok, q⟩
  | .brk, ⟨_, _, J, q⟩ => exact ⟨_, _, J.ofTry ok, q⟩
  | .cont, ⟨_, _, J, q⟩ => exact ⟨_, _, J.ofTry ok, q⟩
  | .ret v, ⟨_, _, _, J, r, q⟩ => exact ⟨_, _, _, J.ofTry ok, r, q⟩⟩
end
end PL

set_option Elab.async false
set_option linter.all false
set_option maxRecDepth 100000
set_option maxHeartbeats 4000000
namespace PL
open PySem PySem.Spec L2
open PyProof.Rows hiding St
set_option autoImplicit false

/-! ### error classes of the program's own, and what the written part says of them -/
def oexB (K : PySem.W.Frag) (C : Addr) : Bool := match K.lookup C with
  | some ⟨.type "type", _, .cls cd, sl⟩ => (match cd.mro, sl.toList with
    | .ref C' :: bm, [_, _, _, _, some (.builtin n), _] => C' == C && n == "ValueError.__new__" && !cd.hasDel && cd.hasDict && PySem.HandSPX.refsVE bm
    | _, _ => false)
  | _ => false
theorem oexB_ok {K : PySem.W.Frag} {C : Addr} (h : oexB K C = true) (sa : PySem.W.findIn K (.ref C) "__setattr__" = some (some (.builtin "object.__setattr__"))) (ex : PySem.W.subIn K (.ref C) (.type "BaseException") = some true) (ty : PySem.W.typeIn K (.ref C) = some (.type "type")) (kp : PySem.W.keepIn K (.ref C) = true) : OexC K C := by
  refine ⟨?_, sa, ex, ty, kp⟩
  unfold oexB at h
  split at h
  · rename_i dd cd sl ho
    split at h
    · rename_i C' bm k0 k1 k2 k3 n k5 hm hs
      simp only [Bool.and_eq_true, beq_iff_eq, Bool.not_eq_true'] at h
      obtain ⟨⟨⟨⟨rfl, rfl⟩, hdel⟩, hdct⟩, hr⟩ := h
      obtain ⟨nm, bs, mro, ns, qn, hd, sn, sub, ab, col, del⟩ := cd
      dsimp only at hm hdel hdct
      subst hm hdel hdct
      have hsl : sl = #[k0, k1, k2, k3, some (.builtin "ValueError.__new__"), k5] := by
        obtain ⟨l⟩ := sl
        simp only at hs
        rw [hs]
      subst hsl
      exact ⟨_, _, _, _, _, _, _, _, _, _, _, _, _, _, _, ho, hr⟩
    · cases h
  · cases h
/-- the error class x with one field -/
def ecB (K : PySem.W.Frag) (x fld : Str) : Bool :=
  He.eqO (PySem.W.nsIn K mainGlobals x) (some (some (.ref (He.ga K x)))) && (oexB K (He.ga K x) && (He.eqO (PySem.W.findIn K (.ref (He.ga K x)) "__setattr__") (some (some (.builtin "object.__setattr__"))) &&
    (decide (PySem.W.subIn K (.ref (He.ga K x)) (.type "BaseException") = some true) && (decide (PySem.W.typeIn K (.ref (He.ga K x)) = some (.type "type")) && (PySem.W.keepIn K (.ref (He.ga K x)) &&
    (He.eqO (PySem.W.findIn K (.ref (He.ga K x)) "__init__") (some (some (.ref (He.ma K (He.ga K x) "__init__")))) && (decide (PySem.W.typeIn K (.ref (He.ma K (He.ga K x) "__init__")) = some (.type "function")) &&
    (He.eqO (PySem.W.findIn K (.ref (He.ga K x)) fld) (some none) && xfB K (He.ga K x)))))))))
structure EcK (K : PySem.W.Frag) (x fld : Str) : Prop where
  ns : PySem.W.nsIn K mainGlobals x = some (some (.ref (He.ga K x)))
  oex : OexC K (He.ga K x)
  ini : PySem.W.findIn K (.ref (He.ga K x)) "__init__" = some (some (.ref (He.ma K (He.ga K x) "__init__")))
  ity : PySem.W.typeIn K (.ref (He.ma K (He.ga K x) "__init__")) = some (.type "function")
  fld : PySem.W.findIn K (.ref (He.ga K x)) fld = some none
  xf : XfC K (He.ga K x)
theorem ecB_ok {K : PySem.W.Frag} {x fld : Str} (h : ecB K x fld = true) : EcK K x fld := by
  unfold ecB at h
  simp only [Bool.and_eq_true] at h
  obtain ⟨h1, h2, h3, h4, h5, h6, h7, h8, h9, h10⟩ := h
  exact ⟨He.eqO_ok h1, oexB_ok h2 (He.eqO_ok h3) (of_decide_eq_true h4) (of_decide_eq_true h5) h6, He.eqO_ok h7, of_decide_eq_true h8, He.eqO_ok h9, xfB_ok h10⟩
/-- the base class x: its __init__ is ValueError's -/
def peB (K : PySem.W.Frag) (x : Str) : Bool :=
  He.eqO (PySem.W.nsIn K mainGlobals x) (some (some (.ref (He.ga K x)))) && (He.eqO (PySem.W.specialIn K (.ref (He.ga K x)) "__getattribute__") (some (some (.builtin "type.__getattribute__"))) &&
    (PySem.W.readsIn K (He.ga K x) (.type "type") && (match PySem.W.findCls K (.ref (He.ga K x)) (.type "type") "__init__" with
      | some (.val (.builtin n)) => n == "ValueError.__init__"
      | _ => false)))
structure PeK (K : PySem.W.Frag) (x : Str) : Prop where
  ns : PySem.W.nsIn K mainGlobals x = some (some (.ref (He.ga K x)))
  ga : PySem.W.specialIn K (.ref (He.ga K x)) "__getattribute__" = some (some (.builtin "type.__getattribute__"))
  rd : PySem.W.readsIn K (He.ga K x) (.type "type") = true
  at_ : PySem.W.findCls K (.ref (He.ga K x)) (.type "type") "__init__" = some (.val (.builtin "ValueError.__init__"))
theorem peB_ok {K : PySem.W.Frag} {x : Str} (h : peB K x = true) : PeK K x := by
  unfold peB at h
  simp only [Bool.and_eq_true] at h
  obtain ⟨h1, h2, h3, h4⟩ := h
  refine ⟨He.eqO_ok h1, He.eqO_ok h2, h3, ?_⟩
  split at h4
  · rename_i n e
    rw [e, beq_iff_eq.mp h4]
  · cases h4
def exmB (K : PySem.W.Frag) (L : List Str) : Bool := L.all fun a => L.all fun b => decide (PySem.W.exmOne K (.ref (He.ga K a)) (.ref (He.ga K b)) = some (decide (a = b)))
theorem exmB_ok {K : PySem.W.Frag} {L : List Str} (h : exmB K L = true) {a b : Str} (ha : a ∈ L) (hb : b ∈ L) : PySem.W.exmOne K (.ref (He.ga K a)) (.ref (He.ga K b)) = some (decide (a = b)) :=
  of_decide_eq_true (List.all_eq_true.mp (List.all_eq_true.mp h a ha) b hb)

/-! ### their making -/
section
variable {X : Cx} {W : WX} {fr : Bool} {k : Nat}
/-- Base.__init__(self, ..), the base a class of the program's own that has ValueError's -/
theorem pe_baseinit {x : Str} {p1 p2 pos : Pos} {e : Expr} {es : List Expr} {ta : TA} {pl : Sem Bool} (T : PeK X.K x) (hg : Gl X x) (hm : X.mg x = some (.ref (He.ga X.K x))) (ha : PA X (e :: es) ta)
    (hc : eval (.Call (.Attribute (.Name x p1) "__init__" p2) (e :: es) [] pos) X.env = (do
      let ov ← eval (.Name x p1) X.env
      standAt p2.atName
      let (f, first) ← holding [ov] (getMethod ov "__init__" pl)
      callWith pos f first (backTo pos (starEach (e :: es) X.env)) (backToKw pos (keywordEach [] X.env))) := by rfl)
    (he : starEach (e :: es) X.env = (false, eval e X.env) :: starEach es X.env := by rfl) (hpl : (backTo pos (starEach es X.env)).any (·.1) = false := by rfl) (hdb : (x == ("__debug__" : Str)) = false := by decide) :
    PE X (.Call (.Attribute (.Name x p1) "__init__" p2) (e :: es) [] pos) (tVeI X.K ta) := ⟨fun pins s σ H Q I h => by
  refine PySem.W.methodCall_KW (ld_glob I hg hm ?_ hdb) hc
  refine PySem.W.method_cls I.kIn T.ga (PySem.W.cls_value I.kIn T.rd T.at_ (by decide +kernel) ?_)
  refine PyProof.Rows.callWith_method1 (thn (ha.run pos pins _ σ H _ (I.tok _) h) fun us s1 r => ?_) he hpl
  obtain ⟨vs, H1, I1, rv, a, C, ws, ev, hl, O, ea, q⟩ := r
  subst ev
  cases rv with
  | cons r1 r2 =>
    cases r1
    refine oinit_ok O I1 ea ?_ fun s' J => ⟨.non, H1, J, rfl, q⟩
    have z := Paired.length r2
    rw [sizeLine_eq]
    omega⟩
def spI (K : PySem.W.Frag) (fld : Str) : Sp := fun vs H Q _ => ∃ (a C : Addr) (z : Str), vs = [.ref a, .str z] ∧ z.length ≤ 1000 ∧ OexC K C ∧ PySem.W.findIn K (.ref C) fld = some none ∧ H a = some (exo a C none) ∧
  ∀ dx, H dx = none → dx ≠ a → Q .non (upd (upd H dx (exd dx [(fld, .str z)])) a (exo a C (some dx)))
/-- an error class is made so -/
structure Ec (P : Program) (w : World) (K : PySem.W.Frag) (mg : Str → Option Value) (base : Heap) (x fld : Str) : Prop where
  k : EcK K x fld
  at_ : mg x = some (.ref (He.ga K x))
  ok : ∃ (fd : FuncData) (ps : List Str), FnOk P w K mg base (L2.CX P w) 1 (He.ma K (He.ga K x) "__init__") fd ps (spI K fld) ∧ Binds K fd ps []
def sRaise (x fld : Str) (da : Den) : DenS := fun ρ => (da ρ).bindS fun p ρ1 => match p with
  | .str z => if z.length ≤ 1000 then .exc ⟨x, fld, .str z⟩ ρ1 else .bad
  | _ => .bad
theorem ds_raise {x fld : Str} {e : Expr} {p pos pos2 : Pos} {da : Den} (E : Ec X.prog X.w X.K X.mg X.base x fld) (c : Ctx X W k) (ha : DE X W e da) (hk : 2 ≤ k := by decide) (hg : Gl X x := by rfl) (hdb : (x == ("__debug__" : Str)) = false := by decide)
    (he : starEach [e] X.env = (false, eval e X.env) :: starEach [] X.env := by rfl) (hpl : (backTo pos (starEach [] X.env)).any (·.1) = false := by rfl) : DS X W fr (.Raise (some (.Call (.Name x p) [e] [] pos)) none pos2) (sRaise x fld da) := by
  obtain ⟨fd, ps, ok, hb⟩ := E.ok
  refine DS.of (ps_raise c.calm c.tk (pmk_oex E.k.oex E.k.ini E.k.ity ok (c.room.mono hk) hb .nil passL hg E.at_ (pa_cons ha pa_nil he) hdb he hpl)) fun H₀ S₀ M S σ H ρ D ab hp => ?_
  refine XOk.bindS (Rl := rV X.K) canon_ok ab hp fun q ρ1 v S1 H1 _ a1 _ r1 hp => ?_
  cases q with
  | str z =>
    have hp : SPost X.K X.mg W fr H₀ S₀ M (if z.length ≤ 1000 then .exc ⟨x, fld, .str z⟩ ρ1 else .bad) D := hp
    by_cases hz : z.length ≤ 1000
    · rw [if_pos hz] at hp
      cases r1
      refine ⟨by simp, fun a ha => ⟨a, He.ga X.K x, z, rfl, hz, E.k.oex, E.k.fld, upd_same, fun dx hd hne => ⟨rfl, dx, [(fld, .str z)], upd_same, ?_, ?_, ?_⟩⟩⟩
      · rw [upd_ne hne, upd_same]
      · rw [upd_ne hne] at hd
        exact hd
      · rw [upd_ne hne] at hd
        have e1 : upd (del (upd (upd (upd H1 a (exo a (He.ga X.K x) none)) dx (exd dx [(fld, .str z)])) a (exo a (He.ga X.K x) (some dx))) a) dx (.xd [(fld, .str z)]) = upd H1 dx (.xd [(fld, .str z)]) := by
          funext b
          by_cases h1 : b = dx
          · subst h1; rw [upd_same, upd_same]
          · rw [upd_ne h1, upd_ne h1]
            by_cases h2 : b = a
            · subst h2; rw [del_same, ha]
            · rw [del_ne h2, upd_ne h2, upd_ne h1, upd_ne h2]
        rw [e1]
        exact hp _ _ S1 σ _ (a1.step (Step.hid a1.sub hd)) ⟨_, dx, .str z, E.at_, rfl, rfl, upd_same, .str z⟩
    · rw [if_neg hz] at hp
      exact hp.elim
  | _ => exact hp.elim

/-! ### try: .. except X as n: return n.field .. -/
def sTry (cs : List Str) (fld : Str) (i : Nat) (body : DenS) : DenS := fun ρ => match body ρ with
  | .exc x ρ1 => if (cs.contains x.cls && decide (x.fld = fld)) && decide (i < ρ1.length) then .rt x.val (ρ1.set i .un) else .bad
  | r => r
theorem clause_in {K : PySem.W.Frag} {mg : Str → Option Value} {L : List Str} {out : WX} {D : Ends} {i : Nat} {x : Exn} {S0 : Hp} {cls : Value} {d : Option Addr} {σ : L2.St} {G : Hp} {fld : Str} (ex : exmB K L = true) (hmg : ∀ y ∈ L, mg y = some (.ref (He.ga K y))) (hx : x.cls ∈ L) (re : ExcRep K mg S0 G x cls d) (hf : x.fld = fld) (hi : i < σ.length) (hD : ∀ v, Rep K S0 x.val v → D.rt v G) :
    ∀ (cs : List Str), (∀ y ∈ cs, y ∈ L) → x.cls ∈ cs → wCl K out D i (cs.map fun y => (.ref (He.ga K y), fun a cls d => tRet (tXf a cls d (He.ga K y) fld (tVar i)))) cls d σ G := by
  obtain ⟨C, dx, v, h1, h2, h3, h4, h5⟩ := re
  have eC : C = He.ga K x.cls := by
    have z := hmg _ hx
    rw [h1] at z
    cases z
    rfl
  subst eC
  subst h2
  intro cs
  induction cs with
  | nil => intro _ h; cases h
  | cons y r ih =>
    intro hs h
    refine ⟨decide (x.cls = y), exmB_ok ex hx (hs y List.mem_cons_self), fun hit a _ => ?_, fun hit => ?_⟩
    · have e : x.cls = y := of_decide_eq_true hit
      subst e
      refine ⟨.ref a, List.getElem?_set_self hi, rfl, rfl, dx, [(x.fld, v)], v, h3, h4, ?_, hD v h5⟩
      rw [← hf]
      simp [List.lookup]
    · have ne : x.cls ≠ y := of_decide_eq_false hit
      exact ih (fun z hz => hs z (List.mem_cons_of_mem _ hz)) (by
        rcases List.mem_cons.mp h with e | e
        · exact absurd e ne
        · exact e)
theorem ds_try {body : List Stmt} {h₀ : ExceptHandler} {hs : List ExceptHandler} {pos : Pos} {n fld : Str} {d : DenS} (L cs : List Str) (i : Nat) (ex : exmB X.K L = true) (hmg : ∀ y ∈ L, X.mg y = some (.ref (He.ga X.K y))) (c : Ctx X W k)
    (hb : ∀ (W' : WX) (pn : List (Addr × Obj)) (xe : Value → Shared → Prop), Ctx (X.tr pn xe) W' k → Po (X.tr pn xe) → DSs (X.tr pn xe) W' false body d) (hcl : Clauses X n (h₀ :: hs) (cs.map fun y => (.ref (He.ga X.K y), fun a cls d => tRet (tXf a cls d (He.ga X.K y) fld (tVar i)))))
    (hsub : ∀ y ∈ cs, y ∈ L := by decide) (hi : X.N[i]? = some n := by rfl) (hln : X.env.kindOf n = some .local := by rfl) (hstk : X.stack = X.env :: X.outer := by rfl) (hfr : X.env.frame = some X.env.locals := by rfl) :
    DS X W false (.Try body (h₀ :: hs) [] [] pos) (sTry cs fld i d) := by
  have hlen : i < X.N.length := (List.getElem?_eq_some_iff.mp hi).1
  have P := ps_tryN (pos := pos) (out := W) c.nd hi hln hstk hfr c.tk (tb := fun W' => canonS X.K X.mg W' false d) (fun W' pn xe tk po => hb W' pn xe ⟨c.calm, c.nd, c.room, tk⟩ po) hcl
  refine ⟨fun pins s σ H D I q => P.run pins s σ H D I ?_⟩
  obtain ⟨H₀, S₀, M, S, ρ, ab, hp⟩ := q
  have hl : ρ.length = X.N.length := by rw [ab.len]; exact I.len
  refine ⟨H₀, S₀, M, S, ρ, ab, ?_⟩
  unfold sTry at hp
  cases e : d ρ with
  | bad => rw [e] at hp; exact hp
  | nx ρ1 => rw [e] at hp; exact hp
  | bk ρ1 => rw [e] at hp; exact hp
  | ct ρ1 => rw [e] at hp; exact hp
  | rt p ρ1 => rw [e] at hp; exact hp
  | exc x ρ1 =>
    simp only [e] at hp
    by_cases hc : ((cs.contains x.cls && decide (x.fld = fld)) && decide (i < ρ1.length)) = true
    · rw [if_pos hc] at hp
      obtain ⟨hc0, hc3⟩ := (Bool.and_eq_true _ _).mp hc
      obtain ⟨hc1, hc2⟩ := (Bool.and_eq_true _ _).mp hc0
      have hm : x.cls ∈ cs := by simpa using hc1
      intro cls dd S' σ' H' a1 re
      have hlt : i < σ'.length := by rw [← a1.len]; exact of_decide_eq_true hc3
      refine clause_in ex hmg (hsub _ hm) re (of_decide_eq_true hc2) hlt (fun v rv => ?_) cs hsub hm
      refine hp v S' σ' H' (a1.forget ?_ fun j s ej hn => ?_) rv
      · rw [List.length_set]; exact a1.len
      · by_cases hj : j = i
        · subst hj
          rw [List.getElem?_set_self (by rw [a1.len]; exact hlt)] at ej
          cases ej
          exact absurd rfl hn
        · rw [List.getElem?_set_ne (Ne.symm hj)] at ej
          exact ⟨ej, rfl⟩
    · rw [if_neg hc] at hp
      exact hp.elim
end
end PL

set_option Elab.async false
set_option linter.all false
set_option maxRecDepth 100000
set_option maxHeartbeats 4000000
namespace PL
open PySem PySem.Spec L2
open PyProof.Rows hiding St
set_option autoImplicit false

/-! ### keys of dicts -/
abbrev KK := Key ⊕ List Key
def key? : PV → Option Key
  | .int i => some (.inl i)
  | .str x => some (.inr x)
  | _ => none
def keys? : List PV → Option (List Key)
  | [] => some []
  | p :: ps => (key? p).bind fun k => (keys? ps).map fun ks => k :: ks
def kk? : PV → Option KK
  | .tup ps => (keys? ps).map .inr
  | p => (key? p).map .inl
def kEq (p q : PV) : Bool := match kk? p, kk? q with
  | some a, some b => decide (a = b)
  | _, _ => false
theorem key?_keyPV (k : Key) : key? (keyPV k) = some k := by cases k <;> rfl
theorem key?_some {p : PV} {k : Key} (h : key? p = some k) : p = keyPV k := by
  cases p <;> simp [key?] at h <;> subst h <;> rfl
theorem keys?_map : ∀ ks : List Key, keys? (ks.map keyPV) = some ks
  | [] => rfl
  | k :: ks => by
    show (key? (keyPV k)).bind (fun k => (keys? (ks.map keyPV)).map fun ks => k :: ks) = _
    rw [key?_keyPV, keys?_map ks]
    rfl
theorem keys?_some : ∀ {ps : List PV} {ks : List Key}, keys? ps = some ks → ps = ks.map keyPV
  | [], _, h => by cases h; rfl
  | p :: ps, ks, h => by
    have h : (key? p).bind (fun k => (keys? ps).map fun ks => k :: ks) = some ks := h
    cases h1 : key? p with
    | none => rw [h1] at h; cases h
    | some k =>
      cases h2 : keys? ps with
      | none => rw [h1, h2] at h; cases h
      | some ks' =>
        rw [h1, h2] at h
        cases h
        rw [key?_some h1, keys?_some h2]
        rfl
theorem kk?_key (k : Key) : kk? (keyPV k) = some (.inl k) := by cases k <;> rfl
theorem kk?_keys (ks : List Key) : kk? (.tup (ks.map keyPV)) = some (.inr ks) := by
  show (keys? (ks.map keyPV)).map Sum.inr = _
  rw [keys?_map]
  rfl
/-- what a dict holds at a key -/
def dLook : List PV → List PV → PV → Option PV
  | k :: ks, v :: vs, q => if kEq k q = true then some v else dLook ks vs q
  | _, _, _ => none
/-- .. and with the key stored -/
def dPut : List PV → List PV → PV → PV → List PV × List PV
  | k :: ks, v :: vs, q, e => if kEq k q = true then (k :: ks, e :: vs) else ((k :: (dPut ks vs q e).1), (v :: (dPut ks vs q e).2))
  | _, _, q, e => ([q], [e])
section
variable {K : PySem.W.Frag} {S : Hp}
theorem Rep.keyV {k : Key} {v : V} (h : Rep K S (keyPV k) v) : v = kV k := by
  cases k <;> cases h <;> rfl
theorem RepL.keyVs : ∀ {ks : List Key} {vs : List V}, RepL K S (ks.map keyPV) vs → vs = ks.map kV
  | [], _, h => by cases h; rfl
  | k :: ks, _, h => by
    cases h with
    | cons h1 h2 => rw [Rep.keyV h1, RepL.keyVs h2]; rfl
theorem dLookK (k : Key) : ∀ {kvs : List (Key × V)} {ps : List PV} {p : PV}, RepL K S ps (kvs.map (·.2)) → dLook (kvs.map fun q => keyPV q.1) ps (keyPV k) = some p → ∃ v, valV kvs k = some v ∧ Rep K S p v
  | [], _, _, h, e => by cases h; cases e
  | (k', v) :: kvs, _, p, h, e => by
    cases h with
    | cons h1 h2 =>
      have e : (if kEq (keyPV k') (keyPV k) = true then some _ else dLook (kvs.map fun q => keyPV q.1) _ (keyPV k)) = some p := e
      have ek : kEq (keyPV k') (keyPV k) = decide (k' = k) := by
        unfold kEq
        rw [kk?_key, kk?_key]
        by_cases hk : k' = k
        · subst hk; simp
        · simp [hk]
      rw [ek] at e
      by_cases hk : k' = k
      · rw [if_pos (decide_eq_true hk)] at e
        cases e
        exact ⟨v, valV_pos hk, h1⟩
      · rw [if_neg (by simp [hk])] at e
        rw [valV_neg hk]
        exact dLookK k h2 e
theorem dLookKn (k : Key) : ∀ {kvs : List (Key × V)} {ps : List PV}, RepL K S ps (kvs.map (·.2)) → dLook (kvs.map fun q => keyPV q.1) ps (keyPV k) = none → valV kvs k = none
  | [], _, h, e => rfl
  | (k', v) :: kvs, _, h, e => by
    cases h with
    | cons h1 h2 =>
      have e : (if kEq (keyPV k') (keyPV k) = true then some _ else dLook (kvs.map fun q => keyPV q.1) _ (keyPV k)) = none := e
      have ek : kEq (keyPV k') (keyPV k) = decide (k' = k) := by
        unfold kEq
        rw [kk?_key, kk?_key]
        by_cases hk : k' = k
        · subst hk; simp
        · simp [hk]
      rw [ek] at e
      by_cases hk : k' = k
      · rw [if_pos (decide_eq_true hk)] at e
        cases e
      · rw [if_neg (by simp [hk])] at e
        rw [valV_neg hk]
        exact dLookKn k h2 e
theorem kEq_keys (a b : List Key) : kEq (.tup (a.map keyPV)) (.tup (b.map keyPV)) = decide (a = b) := by
  unfold kEq
  rw [kk?_keys, kk?_keys]
  by_cases hk : a = b
  · subst hk; simp
  · simp [hk]
theorem dLookT (k : List Key) : ∀ {kvs : List (List Key × V)} {ps : List PV} {p : PV}, RepL K S ps (kvs.map (·.2)) → dLook (kvs.map fun q => .tup (q.1.map keyPV)) ps (.tup (k.map keyPV)) = some p → ∃ v, valV kvs k = some v ∧ Rep K S p v
  | [], _, _, h, e => by cases h; cases e
  | (k', v) :: kvs, _, p, h, e => by
    cases h with
    | cons h1 h2 =>
      have e : (if kEq (.tup (k'.map keyPV)) (.tup (k.map keyPV)) = true then some _ else dLook (kvs.map fun q => .tup (q.1.map keyPV)) _ (.tup (k.map keyPV))) = some p := e
      rw [kEq_keys] at e
      by_cases hk : k' = k
      · rw [if_pos (decide_eq_true hk)] at e
        cases e
        exact ⟨v, valV_pos hk, h1⟩
      · rw [if_neg (by simp [hk])] at e
        rw [valV_neg hk]
        exact dLookT k h2 e
theorem dLookTn (k : List Key) : ∀ {kvs : List (List Key × V)} {ps : List PV}, RepL K S ps (kvs.map (·.2)) → dLook (kvs.map fun q => .tup (q.1.map keyPV)) ps (.tup (k.map keyPV)) = none → valV kvs k = none
  | [], _, h, e => rfl
  | (k', v) :: kvs, _, h, e => by
    cases h with
    | cons h1 h2 =>
      have e : (if kEq (.tup (k'.map keyPV)) (.tup (k.map keyPV)) = true then some _ else dLook (kvs.map fun q => .tup (q.1.map keyPV)) _ (.tup (k.map keyPV))) = none := e
      rw [kEq_keys] at e
      by_cases hk : k' = k
      · rw [if_pos (decide_eq_true hk)] at e
        cases e
      · rw [if_neg (by simp [hk])] at e
        rw [valV_neg hk]
        exact dLookTn k h2 e
/-- the key's kind is the dict's -/
def kOk : Bool → PV → Bool
  | true, .tup _ => true
  | false, .int _ => true
  | false, .str _ => true
  | _, _ => false
/-- a dict shared or owned: looked up -/
inductive DRep (K : PySem.W.Frag) (S H : Hp) : Bool → List PV → List PV → Addr → Prop
  | k {a : Addr} {kvs : List (Key × V)} {ps : List PV} : H a = some (.dK kvs) → RepL K S ps (kvs.map (·.2)) → DRep K S H false (kvs.map fun p => keyPV p.1) ps a
  | t {a : Addr} {kvs : List (List Key × V)} {ps : List PV} : H a = some (.dT kvs) → RepL K S ps (kvs.map (·.2)) → DRep K S H true (kvs.map fun p => .tup (p.1.map keyPV)) ps a
theorem DRep.of {H : Hp} {tk : Bool} {ks ps : List PV} {v : V} (s : Same S H) (h : Rep K S (.dic tk ks ps) v) : ∃ a, v = .ref a ∧ DRep K S H tk ks ps a := by
  cases h with
  | dK h1 h2 => exact ⟨_, rfl, .k (s _ _ h1) h2⟩
  | dT h1 h2 => exact ⟨_, rfl, .t (s _ _ h1) h2⟩
theorem DRep.own {H : Hp} {tk : Bool} {ks ps : List PV} {b : Addr} {o : HO} (h : H b = some o) (w : OwnO K S (.dic tk ks ps) o) : DRep K S H tk ks ps b := by
  cases tk <;> cases o
  case false.dK kvs =>
    obtain ⟨rfl, h2⟩ := (show ks = kvs.map (fun p => keyPV p.1) ∧ RepL K S ps (kvs.map (·.2)) from w)
    exact .k h h2
  case true.dT kvs =>
    obtain ⟨rfl, h2⟩ := (show ks = kvs.map (fun p => .tup (p.1.map keyPV)) ∧ RepL K S ps (kvs.map (·.2)) from w)
    exact .t h h2
  all_goals exact w.elim
theorem DRep.isD {H : Hp} {tk : Bool} {ks ps : List PV} {a : Addr} (h : DRep K S H tk ks ps a) : IsD H a := by
  cases h with
  | k h1 _ => exact .inl ⟨_, .inl h1⟩
  | t h1 _ => exact .inr ⟨_, .inl h1⟩
theorem DRep.get {H : Hp} {tk : Bool} {ks ps : List PV} {a : Addr} {q : PV} {y : V} (s : Same S H) (h : DRep K S H tk ks ps a) (ry : Rep K S q y) (hk : (kk? q).isSome = true) (ho : kOk tk q = true) :
    (∀ p, dLook ks ps q = some p → ∃ v, DGet H a y (some v) ∧ Rep K S p v) ∧ (dLook ks ps q = none → DGet H a y none) := by
  have keyed : ∀ k, key? q = some k → (∀ p, dLook ks ps q = some p → ∃ v, DGet H a y (some v) ∧ Rep K S p v) ∧ (dLook ks ps q = none → DGet H a y none) := fun k hq => by
    have eq := key?_some hq
    subst eq
    have ey := ry.keyV
    subst ey
    cases h with
    | k h3 h4 =>
      refine ⟨fun p e => ?_, fun e => ?_⟩
      · obtain ⟨v, z1, z2⟩ := dLookK k h4 e
        exact ⟨v, .inl ⟨_, k, .inl h3, rfl, z1.symm⟩, z2⟩
      · exact .inl ⟨_, k, .inl h3, rfl, (dLookKn k h4 e).symm⟩
    | t h3 h4 =>
      cases k <;> cases ho
  cases q with
  | tup qs =>
    cases ry with
    | tup h1 h2 =>
      rename_i b us
      have hk : ((keys? qs).map (Sum.inr : List Key → KK)).isSome = true := hk
      cases hks : keys? qs with
      | none => rw [hks] at hk; cases hk
      | some k =>
        have eq := keys?_some hks
        subst eq
        have hx := s _ _ h1
        rw [h2.keyVs] at hx
        cases h with
        | t h3 h4 =>
          refine ⟨fun p e => ?_, fun e => ?_⟩
          · obtain ⟨v, z1, z2⟩ := dLookT k h4 e
            exact ⟨v, .inr ⟨_, k, b, .inl h3, rfl, hx, z1.symm⟩, z2⟩
          · exact .inr ⟨_, k, b, .inl h3, rfl, hx, (dLookTn k h4 e).symm⟩
        | k h3 h4 =>
          cases ho
  | int i => exact keyed (.inl i) rfl
  | str x => exact keyed (.inr x) rfl
  | _ => cases hk
end
end PL

set_option Elab.async false
set_option linter.all false
set_option maxRecDepth 100000
set_option maxHeartbeats 4000000
namespace PL
open PySem PySem.Spec L2
open PyProof.Rows hiding St
set_option autoImplicit false

/-! ### dicts: rules -/
def kGood (t : Bool) (q : PV) : Bool := (kk? q).isSome && kOk t q
def gDG : PV → PV → Option PV
  | .dic t ks vs, q => if kGood t q then dLook ks vs q else none
  | _, _ => none
def gDHas (neg : Bool) : PV → PV → Option PV
  | q, .dic t ks vs => if kGood t q then some (.bl (if neg then !(dLook ks vs q).isSome else (dLook ks vs q).isSome)) else none
  | _, _ => none
def gDG2 : PV → PV → PV → Option PV
  | .dic t ks vs, q, d => if kGood t q then some ((dLook ks vs q).getD d) else none
  | _, _, _ => none
def dGet2 (da db dc : Den) : Den := fun ρ => (da ρ).bind fun p ρ1 => (db ρ1).bind fun q ρ2 => (dc ρ2).bind fun d ρ3 => opt (gDG2 p q d) ρ3
def dGet2v (i : Nat) (db dc : Den) : Den := fun ρ => match slot ρ i with
  | some (.dic _ _ _) => (db ρ).bind fun q ρ2 => (dc ρ2).bind fun d ρ3 => match slot ρ3 i with
    | some p => opt (gDG2 p q d) ρ3
    | none => .bad
  | _ => .bad
section
variable {K : PySem.W.Frag} {mg : Str → Option Value} {W : WX}
theorem DRep.got {S H : Hp} {t : Bool} {ks ps : List PV} {a : Addr} {q p : PV} {y : V} (s : Same S H) (h : DRep K S H t ks ps a) (ry : Rep K S q y) (hk : kGood t q = true) (e : dLook ks ps q = some p) : ∃ v, DGet H a y (some v) ∧ Rep K S p v :=
  (h.get s ry ((Bool.and_eq_true _ _).mp hk).1 ((Bool.and_eq_true _ _).mp hk).2).1 p e
theorem DRep.not {S H : Hp} {t : Bool} {ks ps : List PV} {a : Addr} {q : PV} {y : V} (s : Same S H) (h : DRep K S H t ks ps a) (ry : Rep K S q y) (hk : kGood t q = true) (e : dLook ks ps q = none) : DGet H a y none :=
  (h.get s ry ((Bool.and_eq_true _ _).mp hk).1 ((Bool.and_eq_true _ _).mp hk).2).2 e
/-- a dict in a slot, shared or owned -/
theorem Abs.dict {H₀ S₀ : Hp} {M : Addr → Prop} {S H : Hp} {σ : L2.St} {ρ : Env} {i : Nat} {t : Bool} {ks ps : List PV} (a : Abs K H₀ S₀ M S σ H ρ) (e : slot ρ i = some (.dic t ks ps)) :
    ∃ b, σ[i]? = some (some (.ref b)) ∧ DRep K S H t ks ps b := by
  obtain ⟨v, hv, h⟩ := a.lookL e
  rcases h with h | ⟨b, o, rfl, h2, h3, h4⟩
  · obtain ⟨b, rfl, h5⟩ := DRep.of a.sub h
    exact ⟨b, hv, h5⟩
  · exact ⟨b, hv, DRep.own h3 h4⟩
theorem eo_dg {td ty : TE} {da db : Den} (ha : EOk K mg W td da) (hb : EOk K mg W ty db) : EOk K mg W (tDGet td ty) (d2 gDG da db) := fun H₀ S₀ M S σ H ρ Q ab hp =>
  ha.bind (Rl' := rV K) ab hp fun p ρ1 v S1 H1 _ a1 _ r1 hp => hb.bind (Rl' := rV K) a1 hp fun q ρ2 y S2 H2 _ a2 s2 r2 hp => by
    cases p with
    | dic t ks vs =>
      by_cases hk : kGood t q = true
      · cases e : dLook ks vs q with
        | none => simp only [gDG, if_pos hk, e] at hp; exact hp.elim
        | some z =>
          simp only [gDG, if_pos hk, e] at hp
          obtain ⟨a, rfl, h⟩ := DRep.of a2.sub (r1.up s2)
          obtain ⟨v, h1, h2⟩ := h.got a2.sub r2 hk e
          exact ⟨a, v, rfl, h1, hp v S2 H2 a2 h2⟩
      · simp only [gDG, if_neg hk] at hp; exact hp.elim
    | _ => exact hp.elim
theorem eo_dgv {i : Nat} {ty : TE} {db : Den} (hb : EOk K mg W ty db) : EOk K mg W (tDGet (tVar i) ty) (d2l gDG i db) := fun H₀ S₀ M S σ H ρ Q ab hp => by
  unfold d2l at hp
  cases e0 : slot ρ i with
  | none => rw [e0] at hp; exact hp.elim
  | some p0 =>
    rw [e0] at hp
    obtain ⟨v0, _, hv, _⟩ := ab.look e0
    refine ⟨v0, hv, hb.bind (Rl' := rV K) ab hp fun q ρ1 y S1 H1 _ a1 _ r1 hp => ?_⟩
    cases e1 : slot ρ1 i with
    | none => rw [e1] at hp; exact hp.elim
    | some p =>
      rw [e1] at hp
      cases p with
      | dic t ks vs =>
        obtain ⟨b, h1, h2⟩ := a1.dict e1
        rw [hv] at h1
        cases h1
        by_cases hk : kGood t q = true
        · cases e : dLook ks vs q with
          | none => simp only [gDG, if_pos hk, e] at hp; exact hp.elim
          | some z =>
            simp only [gDG, if_pos hk, e] at hp
            obtain ⟨v, h3, h4⟩ := h2.got a1.sub r1 hk e
            exact ⟨b, v, rfl, h3, hp v S1 H1 a1 h4⟩
        · simp only [gDG, if_neg hk] at hp; exact hp.elim
      | _ => exact hp.elim
theorem eo_dget2v {i : Nat} {ty tx : TE} {db dc : Den} (hb : EOk K mg W ty db) (hc : EOk K mg W tx dc) : EOk K mg W (tDGet2 (tVar i) ty tx) (dGet2v i db dc) := fun H₀ S₀ M S σ H ρ Q ab hp => by
  unfold dGet2v at hp
  cases e0 : slot ρ i with
  | none => rw [e0] at hp; exact hp.elim
  | some p0 =>
    rw [e0] at hp
    cases p0 with
    | dic t0 ks0 vs0 =>
      obtain ⟨b, hv, h0⟩ := ab.dict e0
      refine ⟨.ref b, hv, b, rfl, h0.isD, hb.bind (Rl' := rV K) ab hp fun q ρ1 y S1 H1 _ a1 _ r1 hp => hc.bind (Rl' := rV K) a1 hp fun d ρ2 z S2 H2 _ a2 s2 r2 hp => ?_⟩
      cases e1 : slot ρ2 i with
      | none => rw [e1] at hp; exact hp.elim
      | some p =>
        rw [e1] at hp
        cases p with
        | dic t ks vs =>
          obtain ⟨b', h1, h2⟩ := a2.dict e1
          rw [hv] at h1
          cases h1
          by_cases hk : kGood t q = true
          · simp only [gDG2, if_pos hk] at hp
            cases e : dLook ks vs q with
            | none =>
              rw [e] at hp
              exact ⟨none, h2.not a2.sub (r1.up s2) hk e, hp z S2 H2 a2 r2⟩
            | some p' =>
              rw [e] at hp
              obtain ⟨v, h3, h4⟩ := h2.got a2.sub (r1.up s2) hk e
              exact ⟨some v, h3, hp v S2 H2 a2 h4⟩
          · simp only [gDG2, if_neg hk] at hp; exact hp.elim
        | _ => exact hp.elim
    | _ => exact hp.elim
theorem dhas_core {neg : Bool} {i : Nat} {ty : TE} {db : Den} (hb : EOk K mg W ty db) {H₀ S₀ : Hp} {M : Addr → Prop} {S H : Hp} {σ : L2.St} {ρ : Env} {Q : VK} (ab : Abs K H₀ S₀ M S σ H ρ) (hp : Post K mg W (rV K) H₀ S₀ M σ (d2r (gDHas neg) db i ρ) Q) :
    ty σ H fun y H1 => ∃ x, σ[i]? = some (some x) ∧ ∃ a o, x = .ref a ∧ DGet H1 a y o ∧ Q (.bl (if neg then !o.isSome else o.isSome)) H1 :=
  hb.bind (Rl' := rV K) ab hp fun q ρ1 y S1 H1 _ a1 _ r1 hp => by
    cases e1 : slot ρ1 i with
    | none => rw [e1] at hp; exact hp.elim
    | some p =>
      rw [e1] at hp
      cases p with
      | dic t ks vs =>
        obtain ⟨b, h1, h2⟩ := a1.dict e1
        refine ⟨.ref b, h1, b, ?_⟩
        by_cases hk : kGood t q = true
        · simp only [gDHas, if_pos hk] at hp
          cases e : dLook ks vs q with
          | none =>
            rw [e] at hp
            exact ⟨none, rfl, h2.not a1.sub r1 hk e, hp _ S1 H1 a1 (.bl _)⟩
          | some p' =>
            rw [e] at hp
            obtain ⟨v, h3, h4⟩ := h2.got a1.sub r1 hk e
            exact ⟨some v, rfl, h3, hp _ S1 H1 a1 (.bl _)⟩
        · simp only [gDHas, if_neg hk] at hp; cases q <;> exact hp.elim
      | _ => cases q <;> exact hp.elim
theorem eo_din {i : Nat} {ty : TE} {db : Den} (hb : EOk K mg W ty db) : EOk K mg W (tDIn ty (tVar i)) (d2r (gDHas false) db i) := fun H₀ S₀ M S σ H ρ Q ab hp => dhas_core (neg := false) hb ab hp
theorem eo_dnotin {i : Nat} {ty : TE} {db : Den} (hb : EOk K mg W ty db) : EOk K mg W (tDNotIn ty (tVar i)) (d2r (gDHas true) db i) := fun H₀ S₀ M S σ H ρ Q ab hp => dhas_core (neg := true) hb ab hp
end
/-! ### isinstance -/
def tyName : PV → Option String
  | .non => some "NoneType"
  | .bl _ => some "bool"
  | .int _ => some "int"
  | .str _ => some "str"
  | .lst _ => some "list"
  | .tup _ => some "tuple"
  | .ktup _ => some "tuple"
  | .dic _ _ _ => some "dict"
  | .fn _ => none
  | .klst _ => none
def gIsi (T : String) (p : PV) : Option PV := (tyName p).bind fun t => (kitB t T).map .bl
def gIsi2 (T U : String) (p : PV) : Option PV := (tyName p).bind fun t => (kitB t T).bind fun a => (kitB t U).map fun b => .bl (a || b)
section
variable {K : PySem.W.Frag} {mg : Str → Option Value} {W : WX}
theorem Rep.ty {S H : Hp} {p : PV} {v : V} {t : String} (s : Same S H) (r : Rep K S p v) (e : tyName p = some t) : TyX K H v (.type t) := by
  cases r with
  | non => cases e; exact .base .non
  | bl b => cases e; exact .base (.bl b)
  | int i => cases e; exact .base (.int i)
  | str x => cases e; exact .base (.str x)
  | lst h1 h2 => cases e; exact .base (.lst (s _ _ h1))
  | tup h1 h2 => cases e; exact .base (.tup (s _ _ h1))
  | ktup h1 h2 =>
    cases e
    rcases h1 with (h | ⟨o, h⟩) | ⟨o, its, n, h1, h3, _⟩
    · exact .base (.tup (s _ _ h))
    · exact .fTuple (s _ _ h)
    · exact .kTuple h1 h3
  | klst h1 h2 => cases e
  | dK h1 h2 => cases e; exact .base (.dK (s _ _ h1))
  | dT h1 h2 => cases e; exact .base (.dT (s _ _ h1))
  | fn a => cases e
theorem eo_isi {T : String} {ta : TE} {da : Den} (ha : EOk K mg W ta da) : EOk K mg W (tCB (rIsi K) (tCons ta (tCons (tC (.ty T)) tNil))) (d1 (gIsi T) da) := fun H₀ S₀ M S σ H ρ Q ab hp =>
  ha.bind (Rl' := rV K) ab hp fun p ρ1 v S1 H1 _ a1 _ r1 hp => by
    cases e : tyName p with
    | none => simp only [gIsi, e] at hp; exact hp.elim
    | some t =>
      cases e2 : kitB t T with
      | none => simp only [gIsi, e, e2, Option.bind_some, Option.map_none] at hp; exact hp.elim
      | some b =>
        simp only [gIsi, e, e2, Option.bind_some, Option.map_some] at hp
        exact ⟨v, .ty T, .type t, .type T, b, rfl, .ty T, r1.ty a1.sub e, kit_ty e2, hp _ S1 H1 a1 (.bl b)⟩
theorem eo_isi2 {T U : String} {ta : TE} {da : Den} (ha : EOk K mg W ta da) : EOk K mg W (tCB (rIsiT K) (tCons ta (tCons (tTup (tCons (tC (.ty T)) (tCons (tC (.ty U)) tNil))) tNil))) (d1 (gIsi2 T U) da) := fun H₀ S₀ M S σ H ρ Q ab hp =>
  ha.bind (Rl' := rV K) ab hp fun p ρ1 v S1 H1 _ a1 _ r1 hp => by
    refine ⟨by show 2 ≤ sizeLine; rw [sizeLine_eq]; decide, fun tp n => ?_⟩
    cases e : tyName p with
    | none => simp only [gIsi2, e] at hp; exact hp.elim
    | some t =>
      cases e2 : kitB t T with
      | none => simp only [gIsi2, e, e2, Option.bind_some, Option.bind_none] at hp; exact hp.elim
      | some a =>
        cases e3 : kitB t U with
        | none => simp only [gIsi2, e, e2, e3, Option.bind_some, Option.map_none] at hp; exact hp.elim
        | some b =>
          simp only [gIsi2, e, e2, e3, Option.bind_some, Option.map_some] at hp
          have st := Step.hid (o := .tup [.ty T, .ty U]) a1.sub n
          refine ⟨v, tp, [.ty T, .ty U], .type t, [.type T, .type U], a || b, rfl, upd_same, .cons (.ty T) (.cons (.ty U) .nil), r1.ty (st.s.trans st.sub) e, ?_, hp _ S1 _ (a1.step st) (.bl _)⟩
          refine kitAny_cons (kit_ty e2) (fun ea => ?_) fun ea => by rw [ea]; rfl
          rw [ea, Bool.false_or]
          exact kitAny_cons (kit_ty e3) (fun eb => by rw [eb]; exact kitAny_nil) fun eb => eb
/-! ### is of a bool -/
def gIsB (neg : Bool) (c : Bool) : PV → Option PV
  | .bl b => some (.bl (if neg then !decide (b = c) else decide (b = c)))
  | .non => some (.bl neg)
  | _ => none
end
def rIsBN (neg : Bool) : R2 := fun x y H Q => ∃ c : Bool, y = .bl c ∧ ((∃ b : Bool, x = .bl b ∧ Q (.bl (if neg then !decide (b = c) else decide (b = c))) H) ∨ (x = .non ∧ Q (.bl neg) H))
section
variable {X : Cx} {W : WX} {fr : Bool} {k : Nat} {pos p p2 p3 apos cpos np : Pos} {e a b : Expr} {es rest : List Expr} {da db dc : Den} {dl : DenL} {x : Str}
theorem op_isBN : OpR X (compareOp .Is) (rIsBN false) := by
  intro pins s σ H x y v u Q I rx ry h
  obtain ⟨c, rfl, h⟩ := h
  rcases h with ⟨b, rfl, q⟩ | ⟨rfl, q⟩
  · exact op_isBl pins s σ H _ _ v u Q I rx ry ⟨b, c, rfl, rfl, q⟩
  · cases (show v = Value.none from rx)
    cases (show u = Value.bool c from ry)
    exact wpAny_is_other rfl (fun z => by cases z) ⟨.bl false, H, I, rfl, q⟩
theorem op_isNotBN : OpR X (compareOp .IsNot) (rIsBN true) := by
  intro pins s σ H x y v u Q I rx ry h
  obtain ⟨c, rfl, h⟩ := h
  rcases h with ⟨b, rfl, q⟩ | ⟨rfl, q⟩
  · exact op_notBl pins s σ H _ _ v u Q I rx ry ⟨b, c, rfl, rfl, q⟩
  · cases (show v = Value.none from rx)
    cases (show u = Value.bool c from ry)
    exact wpAny_isNot_other rfl (fun z => by cases z) ⟨.bl true, H, I, rfl, q⟩
def gIsBB (neg : Bool) : PV → PV → Option PV
  | p, .bl c => gIsB neg c p
  | _, _ => none
theorem v2_isB {K : PySem.W.Frag} {neg : Bool} : V2 K (rIsBN neg) (gIsBB neg) := by
  intro S H x y p q z Q s rx ry e k
  cases q with
  | bl c =>
    cases ry
    cases p with
    | bl b => cases rx; cases e; exact ⟨c, rfl, .inl ⟨b, rfl, k _ S H (Step.refl s) (.bl _)⟩⟩
    | non => cases rx; cases e; exact ⟨c, rfl, .inr ⟨rfl, k _ S H (Step.refl s) (.bl _)⟩⟩
    | _ => cases e
  | _ => cases p <;> cases e
theorem isB_sc {neg : Bool} : ∀ p q z, gIsBB neg p q = some z → z.sc = true := by
  intro p q z e
  cases q <;> cases p <;> first | (cases e; done) | (cases e; rfl)
theorem cr_isB : CmpR X .Is (rIsBN false) (gIsBB false) := ⟨op_isBN, v2_isB, isB_sc⟩
theorem cr_isNotB : CmpR X .IsNot (rIsBN true) (gIsBB true) := ⟨op_isNotBN, v2_isB, isB_sc⟩
theorem de_isi (T : String) (B : Bi X.mg) (ha : DE X W e da) (hmT : X.mg x = none) (hb : bootBuiltins x = some (.type T)) (hg : Gl X "isinstance" := by rfl) (hgT : Gl X x := by rfl) (hn : x ≠ "__name__" := by decide) (hdb : (x == ("__debug__" : Str)) = false := by decide)
    (h1 : starEach [e, .Name x p2] X.env = (false, eval e X.env) :: starEach [.Name x p2] X.env := by rfl) (h2 : starEach [.Name x p2] X.env = (false, eval (.Name x p2) X.env) :: starEach [] X.env := by rfl) (hpl : (backTo pos (starEach [.Name x p2] X.env)).any (·.1) = false := by rfl) :
    DE X W (.Call (.Name "isinstance" p) [e, .Name x p2] [] pos) (d1 (gIsi T) da) :=
  DE.of (pe_callB call_isi hg B.isinstance (by decide +kernel) (pa_cons ha (pa_cons (pe_bltn (v := .ty T) hgT hmT hb rfl hn hdb) pa_nil h2) h1) (by decide) (by decide) h1 hpl) (eo_isi canon_ok)
theorem de_isi2 (T U : String) {y : Str} {j : Nat} {p4 : Pos} (B : Bi X.mg) (ha : DE X W e da) (hmT : X.mg x = none) (hb : bootBuiltins x = some (.type T)) (hmU : X.mg y = none) (hbU : bootBuiltins y = some (.type U)) (hg : Gl X "isinstance" := by rfl) (hgT : Gl X x := by rfl) (hgU : Gl X y := by rfl)
    (hn : x ≠ "__name__" := by decide) (hdb : (x == ("__debug__" : Str)) = false := by decide) (hn2 : y ≠ "__name__" := by decide) (hdb2 : (y == ("__debug__" : Str)) = false := by decide)
    (h1 : starEach [e, .Tuple [.Name x p2, .Name y p3] j p4] X.env = (false, eval e X.env) :: starEach [.Tuple [.Name x p2, .Name y p3] j p4] X.env := by rfl) (h2 : starEach [.Tuple [.Name x p2, .Name y p3] j p4] X.env = (false, eval (.Tuple [.Name x p2, .Name y p3] j p4) X.env) :: starEach [] X.env := by rfl)
    (h3 : starEach [.Name x p2, .Name y p3] X.env = (false, eval (.Name x p2) X.env) :: starEach [.Name y p3] X.env := by rfl) (h4 : starEach [.Name y p3] X.env = (false, eval (.Name y p3) X.env) :: starEach [] X.env := by rfl) (hpl : (backTo pos (starEach [.Tuple [.Name x p2, .Name y p3] j p4] X.env)).any (·.1) = false := by rfl) :
    DE X W (.Call (.Name "isinstance" p) [e, .Tuple [.Name x p2, .Name y p3] j p4] [] pos) (d1 (gIsi2 T U) da) :=
  DE.of (pe_callB call_isiT hg B.isinstance (by decide +kernel) (pa_cons ha (pa_cons (pe_tup (pa_cons (pe_bltn (v := .ty T) hgT hmT hb rfl hn hdb) (pa_cons (pe_bltn (v := .ty U) hgU hmU hbU rfl hn2 hdb2) pa_nil h4) h3)) pa_nil h2) h1) (by decide) (by decide) h1 hpl) (eo_isi2 canon_ok)
/-! ### dicts: syntax -/
theorem de_dgv (i : Nat) (c : Ctx X W k) (ho : PE X (.Name x p) (tVar i)) (hi : DE X W e db) (hs : NoSl e := by intro _ _; rfl) : DE X W (.Subscript (.Name x p) e pos) (d2l gDG i db) := DE.of (pe_dget (by have := c.hu; omega) ho hi hs) (eo_dgv canon_ok)
theorem de_dget2v {f : Expr} (i : Nat) (c : Ctx X W k) (ho : PE X (.Name x np) (tVar i)) (he : DE X W e db) (hf : DE X W f dc) (m : M2 X (.Name x np) "get" apos e f cpos := by exact ⟨rfl, rfl, rfl, rfl⟩) : DE X W (.Call (.Attribute (.Name x np) "get" apos) [e, f] [] cpos) (dGet2v i db dc) :=
  DE.of (pe_dget2 (by have := c.hu; omega) ho he hf m) (eo_dget2v canon_ok canon_ok)
theorem de_din (i : Nat) (c : Ctx X W k) (he : DE X W e db) (ho : PE X (.Name x p) (tVar i)) (h1 : behindInMarks .In (.Name x p) = false := by rfl) : DE X W (.Compare e [.In] [.Name x p] pos) (d2r (gDHas false) db i) := DE.of (pe_cmp (pc_din (by have := c.hu; omega) he ho) h1) (eo_din canon_ok)
theorem de_dnotin (i : Nat) (c : Ctx X W k) (he : DE X W e db) (ho : PE X (.Name x p) (tVar i)) (h1 : behindInMarks .NotIn (.Name x p) = false := by rfl) : DE X W (.Compare e [.NotIn] [.Name x p] pos) (d2r (gDHas true) db i) := DE.of (pe_cmp (pc_dnotin (by have := c.hu; omega) he ho) h1) (eo_dnotin canon_ok)
theorem dt_din (i : Nat) (c : Ctx X W k) (he : DE X W e db) (ho : PE X (.Name x p) (tVar i)) (h1 : behindInMarks .In (.Name x p) = false := by rfl) : DT X W (.Compare e [.In] [.Name x p] pos) (bVal (d2r (gDHas false) db i)) := DT.of (pt_cmp (pc_din (by have := c.hu; omega) he ho) h1) (to_val (eo_din canon_ok))
theorem dt_dnotin (i : Nat) (c : Ctx X W k) (he : DE X W e db) (ho : PE X (.Name x p) (tVar i)) (h1 : behindInMarks .NotIn (.Name x p) = false := by rfl) : DT X W (.Compare e [.NotIn] [.Name x p] pos) (bVal (d2r (gDHas true) db i)) := DT.of (pt_cmp (pc_dnotin (by have := c.hu; omega) he ho) h1) (to_val (eo_dnotin canon_ok))
/-! ### join -/
def gJoin : PV → PV → Option PV
  | .str a, .lst ps => (strs? ps).bind fun ys => if (ys.map (·.length)).sum + ys.length * a.length ≤ 16777216 then some (.str (Txt.join a ys)) else none
  | _, _ => none
def dJoin (da db : Den) : Den := fun ρ => (da ρ).bind fun p ρ1 => match p with
  | .str _ => (db ρ1).bind fun q ρ2 => opt (gJoin p q) ρ2
  | _ => .bad
theorem de_join {o : Expr} (ho : DE X W o da) (he : DE X W e db) (hs : starEach [e] X.env = [(false, eval e X.env)] := by rfl) (hbase : attributeBase o "join" X.env (eval o X.env) = eval o X.env := by rfl) (hline : (apos.endLine == pos.line) = true := by rfl) :
    DE X W (.Call (.Attribute o "join" apos) [e] [] pos) (dJoin da db) := DE.of (pe_join ho he hs hbase hline) fun H₀ S₀ M S σ H ρ Q ab hp =>
  canon_ok.bind (Rl := rV X.K) (Rl' := rV X.K) ab hp fun p ρ1 v S1 H1 _ a1 _ r1 hp => by
    cases p with
    | str a =>
      cases r1
      refine ⟨⟨a, rfl⟩, canon_ok.bind (Rl := rV X.K) (Rl' := rV X.K) a1 hp fun q ρ2 y S2 H2 _ a2 s2 r2 hp => ?_⟩
      cases q with
      | lst ps =>
        cases e1 : strs? ps with
        | none => simp only [gJoin, e1] at hp; exact hp.elim
        | some ys =>
          by_cases hz : (ys.map (·.length)).sum + ys.length * a.length ≤ 16777216
          · simp only [gJoin, e1, Option.bind_some, if_pos hz] at hp
            cases r2 with
            | lst h1 h2 =>
              rw [h2.strs e1] at h1
              exact ⟨a, _, ys, rfl, rfl, .inl (.inl (.inl (a2.sub _ _ h1))), hz, hp _ S2 H2 a2 (.str _)⟩
          · simp only [gJoin, e1, Option.bind_some, if_neg hz] at hp; exact hp.elim
      | _ => exact hp.elim
    | _ => exact hp.elim
/-! ### list(x), tuple(x) -/
def gListOf : List PV → Option PV
  | [.lst ps] => some (.lst ps)
  | [.tup ps] => some (.lst ps)
  | [.ktup ps] => some (.lst ps)
  | _ => none
theorem vn_listOf {K : PySem.W.Frag} : VNF K (fun xs H Q => ∃ p ys, xs = [.ref p] ∧ (SqL K H p ys ∨ SqT K H p ys) ∧ ∀ l, H l = none → Q (.ref l) (upd H l (.lst ys))) gListOf := by
  intro S H xs ps z Q s rx e k
  unfold gListOf at e
  split at e
  · cases rx with
    | cons r1 r2 =>
      cases r2; cases e
      cases r1 with
      | lst h1 h2 => exact ⟨_, _, rfl, .inl (.inl (.inl (s _ _ h1))), fun l n => k l (.lst _) n h2⟩
  · cases rx with
    | cons r1 r2 =>
      cases r2; cases e
      cases r1 with
      | tup h1 h2 => exact ⟨_, _, rfl, .inr (.inl (.inl (s _ _ h1))), fun l n => k l (.lst _) n h2⟩
  · cases rx with
    | cons r1 r2 =>
      cases r2; cases e
      cases r1 with
      | ktup h1 h2 => exact ⟨_, _, rfl, .inr (Same.tupK s h1), fun l n => k l (.lst _) n h2⟩
  · cases e
theorem df_listOf (B : Bi X.mg) (ha : DA X W (e :: es) dl) (hg : Gl X "list" := by rfl) (he : starEach (e :: es) X.env = (false, eval e X.env) :: starEach es X.env := by rfl) (hpl : (backTo pos (starEach es X.env)).any (·.1) = false := by rfl) :
    DF X W (.Call (.Name "list" p) (e :: es) [] pos) (dN gListOf dl) := DF.of (pe_callTy call_list_of hg B.list (by decide +kernel) ha (by decide) (by decide) he hpl) (fo_n canon_ok vn_listOf)
end
end PL

set_option Elab.async false
set_option linter.all false
set_option maxRecDepth 100000
set_option maxHeartbeats 4000000
namespace PL
open PySem PySem.Spec L2
open PyProof.Rows hiding St
set_option autoImplicit false

/-! ### displays of dicts -/
def dPairs : List (Den × Den) → Env → Option (List (PV × PV) × Env)
  | [], ρ => some ([], ρ)
  | (dk, dv) :: r, ρ => match dk ρ with
    | .ok p ρ1 => match dv ρ1 with
      | .ok q ρ2 => (match dPairs r ρ2 with
        | some (ps, ρ3) => some ((p, q) :: ps, ρ3)
        | none => none)
      | _ => none
    | _ => none
def nodupK : List PV → Bool
  | [] => true
  | p :: ps => (key? p).isSome && !ps.any (fun q => kEq q p) && nodupK ps
def dDisp (prs : List (Den × Den)) : Den := fun ρ => match dPairs prs (lockE [] ρ) with
  | some (ps, ρ2) => if noOw ρ2 && nodupK (ps.map (·.1)) && decide (ps.length ≤ 15) then .ok (.dic false (ps.map (·.1)) (ps.map (·.2))) (backE [] ρ ρ2) else .bad
  | none => .bad
section
variable {K : PySem.W.Frag} {mg : Str → Option Value} {W : WX}
theorem mergeK_nodup : ∀ (more acc : List (Key × V)), nodupK (more.map fun p => keyPV p.1) = true → (∀ p ∈ more, ∀ q ∈ acc, q.1 ≠ p.1) → mergeK acc more = acc ++ more
  | [], acc, _, _ => by simp [mergeK]
  | p :: r, acc, h, h2 => by
    have h : ((key? (keyPV p.1)).isSome && !(r.map fun q => keyPV q.1).any (fun q => kEq q (keyPV p.1)) && nodupK (r.map fun q => keyPV q.1)) = true := h
    simp only [Bool.and_eq_true, Bool.not_eq_true'] at h
    obtain ⟨⟨_, h3⟩, h4⟩ := h
    have e : putK acc p.1 p.2 = acc ++ [(p.1, p.2)] := by
      unfold putK
      rw [if_neg]
      intro z
      obtain ⟨q, hq, e⟩ := List.any_eq_true.mp z
      exact h2 p List.mem_cons_self q hq (of_decide_eq_true e)
    show mergeK (putK acc p.1 p.2) r = _
    rw [e, mergeK_nodup r _ h4 fun q hq w hw => ?_, List.append_assoc]
    · rfl
    · rcases List.mem_append.mp hw with hw | hw
      · exact h2 q (List.mem_cons_of_mem _ hq) w hw
      · rw [List.mem_singleton.mp hw]
        intro z
        have := List.any_eq_false.mp h3 (keyPV q.1) (List.mem_map.mpr ⟨q, hq, rfl⟩)
        apply this
        unfold kEq
        rw [kk?_key, kk?_key]
        have z' : p.1 = q.1 := z
        simp [z']
inductive POk (K : PySem.W.Frag) (mg : Str → Option Value) (W : WX) : List (TE × TE) → List (Den × Den) → Prop
  | nil : POk K mg W [] []
  | cons {tk tv : TE} {dk dv : Den} {r : List (TE × TE)} {dr : List (Den × Den)} : EOk K mg W tk dk → EOk K mg W tv dv → POk K mg W r dr → POk K mg W ((tk, tv) :: r) ((dk, dv) :: dr)
theorem pairs_run {trs : List (TE × TE)} {prs : List (Den × Den)} (h : POk K mg W trs prs) : ∀ {H₀ S₀ : Hp} {M : Addr → Prop} {S H : Hp} {σ : L2.St} {ρ ρ2 : Env} {ps : List (PV × PV)} {Q : List (V × V) → Hp → Prop}, Abs K H₀ S₀ M S σ H ρ → dPairs prs ρ = some (ps, ρ2) →
    (∀ vs S' H', Abs K H₀ S₀ M S' σ H' ρ2 → Same S S' → RepL K S' (ps.map (·.1)) (vs.map (·.1)) → RepL K S' (ps.map (·.2)) (vs.map (·.2)) → Q vs H') → tPairs trs σ H Q := by
  induction h with
  | nil =>
    intro H₀ S₀ M S H σ ρ ρ2 ps Q ab e hq
    cases e
    exact hq [] S H ab (Same.refl _) .nil .nil
  | @cons tk tv dk dv r dr h1 h2 _ ih =>
    intro H₀ S₀ M S H σ ρ ρ2 ps Q ab e hq
    unfold dPairs at e
    cases e1 : dk ρ with
    | bad => simp only [e1] at e; cases e
    | exc x ρ1 => simp only [e1] at e; cases e
    | ok p ρ1 =>
      simp only [e1] at e
      cases e2 : dv ρ1 with
      | bad => simp only [e2] at e; cases e
      | exc x ρ1 => simp only [e2] at e; cases e
      | ok q ρ3 =>
        simp only [e2] at e
        cases e3 : dPairs dr ρ3 with
        | none => simp only [e3] at e; cases e
        | some pr =>
          obtain ⟨ps', ρ4⟩ := pr
          simp only [e3] at e
          cases e
          refine h1 H₀ S M S σ H ρ _ ab.rebase ?_
          rw [e1]
          intro v S1 H1 a1 r1
          refine h2 H₀ S1 M S1 σ H1 ρ1 _ a1.rebase ?_
          rw [e2]
          intro u S2 H2 a2 r2
          have a2' := ab.unbase (a1.unbase a2)
          refine ih (ab.unbase (a1.unbase a2)) e3 fun vs S3 H3 a3 s3 r3 r4 => hq ((v, u) :: vs) S3 H3 a3 ((a1.base.trans a2.base).trans s3) (.cons ?_ r3) (.cons ?_ r4)
          · exact (Rep.up (a2.base.trans s3) r1)
          · exact Rep.up s3 r2
theorem nodupK_keys : ∀ {ps : List PV}, nodupK ps = true → ∃ ks : List Key, ps = ks.map keyPV
  | [], _ => ⟨[], rfl⟩
  | p :: ps, h => by
    have h : ((key? p).isSome && !ps.any (fun q => kEq q p) && nodupK ps) = true := h
    simp only [Bool.and_eq_true] at h
    obtain ⟨ks, e⟩ := nodupK_keys h.2
    obtain ⟨k, hk⟩ := Option.isSome_iff_exists.mp h.1.1
    exact ⟨k :: ks, by rw [key?_some hk, e]; rfl⟩
theorem fo_disp {trs : List (TE × TE)} {prs : List (Den × Den)} (h : POk K mg (fun _ _ _ _ => False) trs prs) : FOk K mg W (tDisp trs) (dDisp prs) := fun H₀ S₀ M S σ H ρ Q ab hp => by
  unfold dDisp at hp
  cases e : dPairs prs (lockE [] ρ) with
  | none => rw [e] at hp; exact hp.elim
  | some pr =>
    obtain ⟨ps, ρ2⟩ := pr
    rw [e] at hp
    by_cases hc : (noOw ρ2 && nodupK (ps.map (·.1)) && decide (ps.length ≤ 15)) = true
    · simp only [if_pos hc] at hp
      simp only [Bool.and_eq_true] at hc
      obtain ⟨⟨hc0, hc1⟩, hc2⟩ := hc
      intro D hD
      have ab2 := ab.step (Step.hid (o := .dK []) ab.sub hD)
      have aE := ab2.enter []
      have nL : ¬ Lent σ ρ D := fun ⟨i, s, p, h1, h2, h3⟩ => by
        obtain ⟨c, o, k1, _, _, _, k5, _⟩ := ab.own i s p h1 h2
        rw [h3] at k1
        cases k1
        rw [hD] at k5; cases k5
      have sD : S D = none := Same.free ab.sub hD
      refine pairs_run h aE e fun vs S' H' a1 s1 r1 r2 => ?_
      have kD : H' D = some (.dK []) := a1.keep D _ upd_same nL
      have sD' : S' D = none := by
        cases q : S' D with
        | none => rfl
        | some o =>
          rcases a1.grow D o q with z | z
          · rw [sD] at z; cases z
          · rw [upd_same] at z; cases z
      obtain ⟨ks, ek⟩ := nodupK_keys hc1
      rw [ek] at r1
      have ev := r1.keyVs
      have hl : ks.length = vs.length := by
        have := congrArg List.length ev
        simpa using this.symm
      have e3 : ∃ kvs : List (Key × V), vs = kvs.map (fun kv => (kV kv.1, kv.2)) ∧ kvs.map (·.1) = ks ∧ kvs.map (·.2) = vs.map (·.2) := by
        clear r1 r2 ek a1 kD sD' s1
        induction ks generalizing vs with
        | nil => cases vs with
          | nil => exact ⟨[], rfl, rfl, rfl⟩
          | cons v vs => cases hl
        | cons k ks ih => cases vs with
          | nil => cases hl
          | cons v vs =>
            rw [List.map_cons, List.map_cons] at ev
            injection ev with e1 e2
            obtain ⟨kvs, z1, z2, z3⟩ := ih vs e2 (by simpa using hl)
            refine ⟨(k, v.2) :: kvs, ?_, by rw [List.map_cons, z2], by rw [List.map_cons, z3]; rfl⟩
            rw [List.map_cons, ← z1]
            obtain ⟨v1, v2⟩ := v
            have e1 : v1 = kV k := e1
            rw [e1]
      obtain ⟨kvs, z1, z2, z3⟩ := e3
      have hlk : ps.length = kvs.length := by
        have h1 := congrArg List.length ek
        have h2 := congrArg List.length z2
        simp only [List.length_map] at h1 h2
        omega
      refine ⟨kD, kvs, z1, by rw [← hlk]; exact of_decide_eq_true hc2, ?_⟩
      have em : mergeK [] kvs = kvs := by
        rw [mergeK_nodup kvs [] ?_ (fun _ _ q hq => nomatch hq)]
        · rfl
        · have : (kvs.map fun p => keyPV p.1) = ps.map (·.1) := by
            rw [ek, ← z2, List.map_map]
            rfl
          rw [this]; exact hc1
      rw [em]
      have aX := ab2.exit (own := []) a1
      have hn : ∀ (j : Nat) s q, (backE [] ρ ρ2)[j]? = some s → s.own? = some q → σ[j]? ≠ some (some (.ref D)) := fun j s q ej es z => by
        obtain ⟨c, o, k1, k2, k3, k4, k5, k6⟩ := aX.own j s q ej es
        rw [z] at k1
        cases k1
        rcases backE_get ej (by intro w; subst w; cases es) with ⟨_, q', hq, _⟩ | ⟨h1, t, t', h2, h3, h4⟩
        · subst hq; cases es
        · have ht : ∃ p, t.own? = some p := by
            cases t <;> cases t' <;> simp [Sl.back] at h4 <;> subst h4 <;> first | (cases es; done) | exact ⟨_, rfl⟩
          obtain ⟨p, hp'⟩ := ht
          exact nL ⟨j, t, p, h2, hp', z⟩
      have aF := aX.other (o := .dK kvs) (ab.none0 hD) sD' hn
      refine hp (.ref D) S' _ aF ⟨D, .dK kvs, rfl, ab.none0 hD, sD', upd_same, ⟨?_, ?_⟩, hn⟩
      · rw [ek, ← z2, List.map_map]
        rfl
      · rw [z3]; exact r2
    · simp only [if_neg hc] at hp
      exact hp.elim
end
section
variable {X : Cx} {W : WX} {pos : Pos}
theorem Ctx.wf {k : Nat} (c : Ctx X W k) : Ctx X (fun _ _ _ _ => False) k := ⟨c.calm, c.nd, c.room, takes0⟩
/-- the pairs of a display -/
structure DPs (X : Cx) (W : WX) (pos : Pos) (keys : List (Option Expr)) (values : List Expr) (prs : List (Den × Den)) : Prop where
  ex : ∃ trs, PPs X pos keys values trs ∧ POk X.K X.mg (fun _ _ _ _ => False) trs prs
theorem dps_nil : DPs X W pos [] [] [] := ⟨⟨[], pps_nil, .nil⟩⟩
theorem dps_cons {k v : Expr} {ks : List (Option Expr)} {vs : List Expr} {dk dv : Den} {prs : List (Den × Den)} (hk : DE X (fun _ _ _ _ => False) k dk) (hv : DE X (fun _ _ _ _ => False) v dv) (h : DPs X W pos ks vs prs) : DPs X W pos (some k :: ks) (v :: vs) ((dk, dv) :: prs) := by
  obtain ⟨trs, h1, h2⟩ := h.ex
  exact ⟨⟨_, pps_cons hk hv h1, .cons canon_ok canon_ok h2⟩⟩
theorem df_disp {keys : List (Option Expr)} {values : List Expr} {prs : List (Den × Den)} (h : DPs X W pos keys values prs) (hall : keys.all (·.isSome) = true := by rfl) (hl : keys.length = values.length := by rfl) (h0 : keys ≠ [] := by intro z; cases z) (h15 : keys.length ≤ 15 := by decide) :
    DF X W (.Dict keys values pos) (dDisp prs) := by
  obtain ⟨trs, h1, h2⟩ := h.ex
  exact DF.of (pe_disp h1 hall hl h0 h15) (fo_disp h2)
theorem df_dnewK : DF X W (.Dict [] [] pos) (dC (.dic false [] [])) := DF.of pe_dnewK fun H₀ S₀ M S σ H ρ Q ab hp p n => hp _ S _ (ab.fresh (p := .dic false [] []) (o := .dK []) n ⟨rfl, .nil⟩).1 (ab.fresh (p := .dic false [] []) (o := .dK []) n ⟨rfl, .nil⟩).2
theorem df_dnewT : DF X W (.Dict [] [] pos) (dC (.dic true [] [])) := DF.of pe_dnewT fun H₀ S₀ M S σ H ρ Q ab hp p n => hp _ S _ (ab.fresh (p := .dic true [] []) (o := .dT []) n ⟨rfl, .nil⟩).1 (ab.fresh (p := .dic true [] []) (o := .dT []) n ⟨rfl, .nil⟩).2
end
end PL

set_option Elab.async false
set_option linter.all false
set_option maxRecDepth 100000
set_option maxHeartbeats 4000000
namespace PL
open PySem PySem.Spec L2
open PyProof.Rows hiding St
set_option autoImplicit false

/-! ### defs of the head -/
abbrev FnP (K : PySem.W.Frag) (x qual : Str) (st : Stmt) (f : Addr) (fd : FuncData) : Prop := FunD K x qual (defArgs st) (defBody st) (defScope st) [] [] f fd
abbrev Bnd (x qual : Str) (st : Stmt) (ps : List Str) : Prop := ∀ (kV doc pm : Value) (an : Option Addr) (cdv ct : Value) (us : List Value), us.length = ps.length → bindArgs (PySem.W.fnOf x qual (defArgs st) (defBody st) (defScope st) .none kV doc pm an cdv ct) ⟨us, []⟩ = pure (ps.zip us)
theorem fn_okD {P : Program} {w : World} {K : PySem.W.Frag} {mg : Str → Option Value} {base : Heap} {x qual : Str} {st : Stmt} {f : Addr} {fd : FuncData} {N ps : List Str} {k : Nat} {io fr : Bool} {d : DenS} (F : FnP K x qual st f fd) (S : FnScope N ps (defScope st))
    (hl : ps.length ≤ N.length)
    (hbody : ∀ (cdv : Value) (A : Around) (outer : List PySem.Env) (s : Shared) (H : Hp) (E : XK), Ctx (cxOf (L2.CX P w) P w K mg base N qual (defScope st) f cdv A outer s H E) (fun cls dd _ H => E cls dd H) k → Po (cxOf (L2.CX P w) P w K mg base N qual (defScope st) f cdv A outer s H E) →
      DSs (cxOf (L2.CX P w) P w K mg base N qual (defScope st) f cdv A outer s H E) (fun cls dd _ H => E cls dd H) fr (defBody st) d) :
    FnOk P w K mg base (L2.CX P w) (k + 1) f fd ps (spD K mg io fr ps.length (runD io fr ps.length N.length d)) := by
  refine F.ok S (fun vs H Q E h => h.1) fun cdv A outer s H vs Q E hr h => ⟨_, hbody cdv A outer s H E ⟨rfl, S.nd, hr, takes_of rfl rfl rfl rfl⟩ (passes_of rfl), ?_⟩
  exact body_ok canonS_ok hl h
theorem fd_okD {P : Program} {w : World} {K : PySem.W.Frag} {mg : Str → Option Value} {base : Heap} {x qual : Str} {st : Stmt} {f : Addr} {fd : FuncData} {N ps : List Str} {k : Nat} {io fr : Bool} {d : DenS} (F : FnP K x qual st f fd) (hm : mg x = some (.ref f)) (S : FnScope N ps (defScope st))
    (hb : Bnd x qual st ps) (hl : ps.length ≤ N.length)
    (hbody : ∀ (cdv : Value) (A : Around) (outer : List PySem.Env) (s : Shared) (H : Hp) (E : XK), Ctx (cxOf (L2.CX P w) P w K mg base N qual (defScope st) f cdv A outer s H E) (fun cls dd _ H => E cls dd H) k → Po (cxOf (L2.CX P w) P w K mg base N qual (defScope st) f cdv A outer s H E) →
      DSs (cxOf (L2.CX P w) P w K mg base N qual (defScope st) f cdv A outer s H E) (fun cls dd _ H => E cls dd H) fr (defBody st) d) :
    Fd P w K mg base x (k + 1) io fr ps.length (runD io fr ps.length N.length d) := by
  refine ⟨⟨f, fd, ps, fn_okD F S hl hbody, hm, F.kp, F.bindsN hb⟩, fun qs h => ?_⟩
  unfold runD at h
  by_cases e : qs.length = ps.length
  · exact e
  · rw [if_neg e] at h
    exact absurd rfl h
/-- an error class whose __init__ calls its base's and sets the field -/
abbrev rStr : R2 := fun x y H Q => ∃ i j, x = .str i ∧ y = .str j ∧ i.length + j.length ≤ sizeLine ∧ Q (.str (i ++ j)) H
def tIni (K : PySem.W.Frag) (txt fld : Str) : TS := tSeq (tDrop (tVeI K (tCons (tVar 0) (tCons (tOp rStr (tC (.str txt)) (tVar 1)) tNil)))) (tOst K fld (tVar 0) (tVar 1))
theorem ec_ok {P : Program} {w : World} {K : PySem.W.Frag} {mg : Str → Option Value} {base : Heap} {x fld txt p1 p2 qual : Str} {st : Stmt} {fd : FuncData} (E : EcK K x fld) (hm : mg x = some (.ref (He.ga K x)))
    (F : FnP K "__init__" qual st (He.ma K (He.ga K x) "__init__") fd) (S : FnScope [p1, p2] [p1, p2] (defScope st)) (hb : Bnd "__init__" qual st [p1, p2]) (ht : txt.length ≤ 1000)
    (hbody : ∀ (cdv : Value) (A : Around) (outer : List PySem.Env) (s : Shared) (H : Hp) (E : XK), PSs (cxOf (L2.CX P w) P w K mg base [p1, p2] qual (defScope st) (He.ma K (He.ga K x) "__init__") cdv A outer s H E) (defBody st) (tIni K txt fld)) :
    Ec P w K mg base x fld := by
  refine ⟨E, hm, fd, [p1, p2], ?_, F.bindsN hb⟩
  refine F.ok S (fun vs H Q E h => ?_) fun cdv A outer s H vs Q E hr h => ⟨_, hbody cdv A outer s H E, ?_⟩
  · obtain ⟨a, C, z, e, _⟩ := h
    rw [e]; rfl
  · obtain ⟨a, C, z, rfl, hz, O, hf, ea, hq⟩ := h
    refine ⟨_, rfl, _, rfl, txt, z, rfl, rfl, ?_, a, C, [.str (txt ++ z)], rfl, by simp, O, ea, ?_⟩
    · rw [sizeLine_eq]; omega
    · refine ⟨.str z, rfl, .ref a, rfl, a, C, rfl, O, hf, .inl ⟨ea, fun dx hd hne => hq dx hd hne⟩⟩

/-! ### the law's def -/
def spTop (K : PySem.W.Frag) : Sp := fun vs H Q _ => ∃ (a : Addr) (ns : List Int), vs = [.ref a] ∧ ns.length ≤ 63 ∧ SqL K H a (ns.map V.int) ∧ ∀ H', Q (.bl true) H'
theorem repInts {K : PySem.W.Frag} {S : Hp} : ∀ ns : List Int, RepL K S (ns.map PV.int) (ns.map V.int)
  | [] => .nil
  | n :: ns => .cons (.int n) (repInts ns)
theorem fd_top {P : Program} {w : World} {K : PySem.W.Frag} {mg : Str → Option Value} {base : Heap} {k : Nat} {F : List PV → FR} {f : Addr} {fd : FuncData} {ps : List Str} (h : FnOk P w K mg base (L2.CX P w) k f fd ps (spD K mg false false 1 F)) (hF : ∀ ns : List Int, ns.length ≤ 63 → ∃ q, F [.klst (ns.map .int)] = .ok (.bl true) q) :
    FnOk P w K mg base (L2.CX P w) k f fd ps (spTop K) := h.imp fun vs H Q E q => by
  obtain ⟨a, ns, rfl, hl, hs, hq⟩ := q
  obtain ⟨q, e⟩ := hF ns hl
  refine ⟨rfl, H, fun _ => False, [.klst (ns.map .int)], fun _ _ z => z.elim, ⟨rfl, Same.refl _, Same.refl _, fun _ _ e => .inl e, fun _ _ e _ => e, fun b o e => ⟨o, e⟩, fun i p e => ?_, fun i s p e es => ?_, fun i j s t p q c e es => ?_⟩, (fun z => by cases z), ?_⟩
  · cases i with
    | zero =>
      cases e
      exact ⟨.ref a, rfl, .klst hs (repInts ns)⟩
    | succ i => simp [argSl] at e
  · cases i with
    | zero => cases e; cases es
    | succ i => simp [argSl] at e
  · cases i with
    | zero => cases e; cases es
    | succ i => simp [argSl] at e
  · rw [e]
    intro v S' H' _ r
    have r : Rep K S' (.bl true) v := by simpa [RetRep] using r
    cases r
    exact hq H'
end PL
namespace PL
open PySem PySem.Spec L2
open PyProof.Rows hiding St
set_option autoImplicit false
/-! ### except X as n: return n.field -/
theorem clause {X : Cx} {n x fld : Str} {i : Nat} {q q' p1 p2 p3 : Pos} {hs : List ExceptHandler} {cl : List Clause} (E : Ec X.prog X.w X.K X.mg X.base x fld) (h : Clauses X n hs cl) (hg : Gl X x := by rfl) (hN : X.N[i]? = some n := by rfl) (hv : Vis X.env.scope n := by first | exact Or.inl rfl | exact Or.inr (Or.inl rfl) | exact Or.inr (Or.inr rfl))
    (hb : attributeBase (.Name n p1) fld X.env (eval (.Name n p1) X.env) = eval (.Name n p1) X.env := by rfl) (hd : (n == ("__debug__" : Str)) = false := by decide) (hcd : (n == ("__classdict__" : Str)) = false := by decide) (hdb : (x == ("__debug__" : Str)) = false := by decide) :
    Clauses X n (.ExceptHandler (some (.Name x q)) (some n) [.Return (some (.Attribute (.Name n p1) fld p2)) p3] q' :: hs) ((.ref (He.ga X.K x), fun a cls d => tRet (tXf a cls d (He.ga X.K x) fld (tVar i))) :: cl) :=
  .cons ⟨hg, hdb, .inl E.at_⟩ (fun a ob cls d pn hz hf => pss_one (ps_ret (pe_xf E.k.xf E.k.fld hz hf (pe_var hN hv hd hcd) hb))) h
/-- nothing is promised -/
theorem dss_bad {X : Cx} {W : WX} {fr : Bool} {sts : List Stmt} : DSs X W fr sts (fun _ => .bad) := ⟨fun pins s σ H D I q => by
  obtain ⟨_, _, _, _, _, _, z⟩ := q
  exact z.elim⟩
end PL

set_option Elab.async false
set_option linter.all false
set_option maxRecDepth 100000
set_option maxHeartbeats 4000000
namespace PL
open PySem PySem.Spec L2 He
set_option autoImplicit false
/-! ### what is looked at behind the top: the statics too -/
def frY (g : Addr → Option Obj) (n : Nat) : PySem.W.Frag := frG g [cStatics] ++ frT g (asD g n)
theorem frY_in {n : Nat} {h : Heap} : (frY h.get? n).In h := fun a o e => by
  have m := lookup_mem (show (frG h.get? [cStatics] ++ frT h.get? (asD h.get? n)).lookup a = some o from e)
  rcases List.mem_append.mp m with m | m
  · exact frG_mem m
  · exact frG_mem (List.mem_filter.mp m).1
abbrev AlY : Type := AlT × Bool
def obsY (n : Nat) (fa : List Fa) (fn : List DefD) (ex : PySem.W.Frag → Bool) (g : Addr → Option Obj) : AlY := (obsT fa fn [] (frY g n), ex (frY g n))
structure SaysY (fa : List Fa) (fn : List DefD) (ex : PySem.W.Frag → Bool) (w : World) (K : PySem.W.Frag) : Prop where
  t : SaysT fa fn [] w K
  more : ex K = true
def hookY (n : Nat) (fa : List Fa) (fn : List DefD) (ex : PySem.W.Frag → Bool) : PySem.W.Hook where
  α := AlY
  obs := fun s => obsY n fa fn ex s.heap.get?
  val := fun w => (valT fn [] w, true)
  says := fun w h => ∃ K : PySem.W.Frag, K.In h ∧ SaysY fa fn ex w K
  of := fun _ _ e => ⟨_, frY_in, congrArg (fun z : AlY => z.1) e, congrArg (fun z : AlY => z.2) e⟩
  keeps := fun _ _ _ ⟨K, hK, c⟩ k => ⟨K, PySem.W.Frag.In.keeps hK k, c⟩
theorem obsY_eq {n : Nat} {fa : List Fa} {fn : List DefD} {ex : PySem.W.Frag → Bool} {g : Addr → Option Obj} {s : Shared} (h : ∀ a, g a = s.heap.get? a) : obsY n fa fn ex g = (hookY n fa fn ex).obs s := by
  have e : g = s.heap.get? := funext h
  rw [e] <;> rfl
/-- some world's -/
def CXA (P : Program) : CXT := fun outer H s E u s' => ∃ w, L2.CX P w outer H s E u s'
theorem FnOk.anyW {P : Program} {w : World} {K : PySem.W.Frag} {mg : Str → Option Value} {base : Heap} {k : Nat} {f : Addr} {fd : FuncData} {ps : List Str} {sp : Sp} (F : FnOk P w K mg base (L2.CX P w) k f fd ps sp) : FnOk P w K mg base (CXA P) k f fd ps sp :=
  ⟨F.len, fun A outer s H args us vs Q E hr he hb hv hs => codeAny_mono (F.run A outer s H args us vs Q E hr he hb hv hs) fun r s' z => by
    cases r with
    | ok fin => cases fin <;> exact z
    | error e => exact ⟨w, z⟩⟩
theorem CXA.none {P : Program} (H : Hp) (s : Shared) (e : Value) (s' : Shared) (h : CXA P [] H s (fun _ _ _ => False) e s') : False := by
  obtain ⟨w, _, _, _, _, _, _, _, _, _, _, _, _, z⟩ := h
  exact z
end PL

set_option Elab.async false
set_option linter.all false
set_option maxRecDepth 100000
set_option maxHeartbeats 4000000
namespace PL
open PySem PySem.Spec L2
set_option autoImplicit false
/-! ### reading denotations: rules for simp -/
section
variable {p q z : PV} {ρ ρ1 : Env} {i j : Nat} {da db dc : Den} {dt du : DenB} {dl dr : DenL} {dla : DenO} {a b : DenS} {g g' : PV → PV → Option PV} {F : List PV → FR} {s : Sl} {r : Env} {own : List Nat} {dg : DenG} {dh : DenO} {T : String}
@[simp] theorem ap_dC : dC p ρ = .ok p ρ := id rfl
@[simp] theorem ap_dVar : dVar i ρ = match ρ[i]? with
  | some (.sh p) => .ok p ρ
  | some (.ow p) => .ok p (ρ.set i (.sh p))
  | _ => .bad := id rfl
@[simp] theorem ap_slot : slot ρ i = match ρ[i]? with
  | some s => s.pv?
  | none => none := by unfold slot; cases ρ[i]? <;> rfl
@[simp] theorem pv_sh : Sl.pv? (.sh p) = some p := id rfl
@[simp] theorem pv_ow : Sl.pv? (.ow p) = some p := id rfl
@[simp] theorem pv_io : Sl.pv? (.io p) = some p := id rfl
@[simp] theorem ap_own : ownAt ρ i = match ρ[i]? with
  | some (.ow p) => some (.ow p, p)
  | some (.io p) => some (.io p, p)
  | _ => none := id rfl
@[simp] theorem with_ow : Sl.with (.ow p) q = .ow q := id rfl
@[simp] theorem with_io : Sl.with (.io p) q = .io q := id rfl
@[simp] theorem ap_d1 {g : PV → Option PV} : d1 g da ρ = (da ρ).bind fun p ρ1 => opt (g p) ρ1 := id rfl
@[simp] theorem ap_d2 : d2 g da db ρ = (da ρ).bind fun p ρ1 => (db ρ1).bind fun q ρ2 => opt (g p q) ρ2 := id rfl
@[simp] theorem ap_d2l : d2l g i db ρ = match slot ρ i with
  | none => .bad
  | some _ => (db ρ).bind fun q ρ1 => match slot ρ1 i with
    | none => .bad
    | some p => opt (g p q) ρ1 := id rfl
@[simp] theorem ap_d2r : d2r g da i ρ = (da ρ).bind fun p ρ1 => match slot ρ1 i with
    | none => .bad
    | some q => opt (g p q) ρ1 := id rfl
@[simp] theorem ap_d1v {g : PV → Option PV} : d1v g i ρ = match slot ρ i with
    | some p => opt (g p) ρ
    | _ => .bad := id rfl
@[simp] theorem ap_dNil : dNil ρ = .ok [] ρ := id rfl
@[simp] theorem ap_dCons : dCons da dl ρ = (da ρ).bind fun p ρ1 => (dl ρ1).bind fun ps ρ2 => .ok (p :: ps) ρ2 := id rfl
@[simp] theorem ap_dN {g : List PV → Option PV} : dN g dl ρ = (dl ρ).bind fun ps ρ1 => opt (g ps) ρ1 := id rfl
@[simp] theorem ap_dIf : dIf dt da db ρ = (dt ρ).bind fun b ρ1 => if b = true then da ρ1 else db ρ1 := id rfl
@[simp] theorem ap_bAnd : bAnd dt du ρ = (dt ρ).bind fun b ρ1 => if b = true then du ρ1 else .ok false ρ1 := id rfl
@[simp] theorem ap_bOr : bOr dt du ρ = (dt ρ).bind fun b ρ1 => if b = true then .ok true ρ1 else du ρ1 := id rfl
@[simp] theorem ap_bNot : bNot dt ρ = (dt ρ).bind fun b ρ1 => .ok (!b) ρ1 := id rfl
@[simp] theorem ap_bVal : bVal da ρ = (da ρ).bind fun p ρ1 => opt p.bool? ρ1 := id rfl
@[simp] theorem ap_bool (b : Bool) : PV.bool? (.bl b) = some b := id rfl
@[simp] theorem ap_bTru : bTru da ρ = (da ρ).bind fun p ρ1 => opt (truth p) ρ1 := id rfl
@[simp] theorem ap_bTruV : bTruV i ρ = match slot ρ i with
  | some p => opt (truth p) ρ
  | none => .bad := id rfl
@[simp] theorem ap_bYes : bYes ρ = .ok true ρ := id rfl
@[simp] theorem ap_dAndT : dAndT da db ρ = (da ρ).bind fun p ρ1 => match truth p with
  | none => .bad
  | some b => if b = true then db ρ1 else .ok p ρ1 := id rfl
@[simp] theorem ap_dOrT : dOrT da db ρ = (da ρ).bind fun p ρ1 => match truth p with
  | none => .bad
  | some b => if b = true then .ok p ρ1 else db ρ1 := id rfl
@[simp] theorem ap_dNotT : dNotT da ρ = (da ρ).bind fun p ρ1 => opt ((truth p).map fun b => .bl (!b)) ρ1 := id rfl
@[simp] theorem ap_dChain : dChain g g' da db dc ρ = (da ρ).bind fun p ρ1 => (db ρ1).bind fun q ρ2 => match g p q with
  | some (.bl true) => (dc ρ2).bind fun r ρ3 => opt (g' q r) ρ3
  | some (.bl false) => .ok (.bl false) ρ2
  | _ => .bad := id rfl
@[simp] theorem ap_dLst : dLst dl ρ = (dl ρ).bind fun ps ρ1 => if ps.length ≤ sizeLine then .ok (.lst ps) ρ1 else .bad := id rfl
@[simp] theorem ap_dTup : dTup dl ρ = (dl ρ).bind fun ps ρ1 => if ps.length ≤ sizeLine then .ok (.tup ps) ρ1 else .bad := id rfl
@[simp] theorem ap_oNone : oNone ρ = .ok none ρ := id rfl
@[simp] theorem ap_dMut {g : PV → List PV → Option (PV × PV)} : dMut T g i dl ρ = match ownAt ρ i with
  | none => .bad
  | some (_, p0) => if isT T p0 = true then (dl ρ).bind fun ps ρ1 => match ownAt ρ1 i with
    | none => .bad
    | some (s, p) => match g p ps with
      | none => .bad
      | some (q, z) => .ok z (ρ1.set i (s.with q))
    else .bad := id rfl
@[simp] theorem ap_dMut0 {g : PV → List PV → Option (PV × PV)} : dMut0 T g i ρ = match ownAt ρ i with
  | none => .bad
  | some (s, p) => if isT T p = true then (match g p [] with
      | none => .bad
      | some (q, z) => .ok z (ρ.set i (s.with q))) else .bad := id rfl
@[simp] theorem ap_isT {ps : List PV} : isT "list" (.lst ps) = true := id rfl
@[simp] theorem ap_dCall : dCall F dl ρ = (dl ρ).bind fun ps ρ1 => match F ps with
  | .bad => .bad
  | .exc x => .exc x ρ1
  | .ok p _ => .ok p ρ1 := id rfl
@[simp] theorem ap_dCallIo : dCallIo F i dl ρ = match ownAt ρ i with
  | none => .bad
  | some _ => (dl ρ).bind fun ps ρ1 => match ownAt ρ1 i with
    | none => .bad
    | some (s, p) => match F (p :: ps) with
      | .bad => .bad
      | .exc x => .exc x (ρ1.set i .un)
      | .ok z q => .ok z (ρ1.set i (s.with q)) := id rfl
@[simp] theorem ap_dLc {di : DenL} : dLc own di dg dt da ρ = (di ρ).bind fun xs ρ1 => match lcLoop own dg dt da xs (lockE own ρ1) with
  | some (ys, ρ2) => if ys.length ≤ 1000000 then .ok (.lst ys) (backE own ρ1 ρ2) else .bad
  | none => .bad := id rfl
/-! statements -/
@[simp] theorem ap_sNx : sNx ρ = .nx ρ := id rfl
@[simp] theorem ap_sBk : sBk ρ = .bk ρ := id rfl
@[simp] theorem ap_sCt : sCt ρ = .ct ρ := id rfl
@[simp] theorem ap_sSeq : sSeq a b ρ = match a ρ with
  | .nx ρ1 => b ρ1
  | r => r := id rfl
@[simp] theorem ap_sExpr : sExpr da ρ = (da ρ).bindS fun _ ρ1 => .nx ρ1 := id rfl
@[simp] theorem ap_sRet : sRet da ρ = (da ρ).bindS fun p ρ1 => .rt p ρ1 := id rfl
@[simp] theorem ap_sRetN : sRetN ρ = .rt .non ρ := id rfl
@[simp] theorem ap_sRetO : sRetO i ρ = match ρ[i]? with
  | some (.ow p) => .rt p (ρ.set i .un)
  | _ => .bad := id rfl
@[simp] theorem ap_sIf : sIf dt a b ρ = (dt ρ).bindS fun c ρ1 => if c = true then a ρ1 else b ρ1 := id rfl
@[simp] theorem ap_sSet : sSet i da ρ = (da ρ).bindS fun p ρ1 => .nx (ρ1.set i (.sh p)) := id rfl
@[simp] theorem ap_sSetF : sSetF i da ρ = (da ρ).bindS fun p ρ1 => .nx (ρ1.set i (.ow p)) := id rfl
@[simp] theorem ap_sAsg : sAsg da dg ρ = (da ρ).bindS fun p ρ1 => match dg p ρ1 with
  | some ρ2 => .nx ρ2
  | none => .bad := id rfl
@[simp] theorem ap_sAug : sAug i g da ρ = match slot ρ i with
  | none => .bad
  | some _ => (da ρ).bindS fun q ρ1 => match slot ρ1 i with
    | none => .bad
    | some p => match g p q with
      | some z => .nx (ρ1.set i (.sh z))
      | none => .bad := id rfl
@[simp] theorem ap_sSub {g : PV → PV → PV → Option PV} : sSub g i db da ρ = (da ρ).bindS fun e ρ1 => match ownAt ρ1 i with
  | none => .bad
  | some _ => (db ρ1).bindS fun k ρ2 => match ownAt ρ2 i with
    | none => .bad
    | some (s, p) => match g p k e with
      | none => .bad
      | some q => .nx (ρ2.set i (s.with q)) := id rfl
@[simp] theorem ap_sFor {di : DenL} : sFor di dg b ρ = (di ρ).bindS fun xs ρ1 => dLoop dg b xs ρ1 := id rfl
@[simp] theorem ap_sRaise {x f : Str} : sRaise x f da ρ = (da ρ).bindS fun p ρ1 => match p with
  | .str z => if z.length ≤ 1000 then .exc ⟨x, f, .str z⟩ ρ1 else .bad
  | _ => .bad := id rfl
@[simp] theorem ap_gName : gName i p ρ = some (ρ.set i (.sh p)) := id rfl
@[simp] theorem ap_gTup {gs : List PV → Env → Option Env} {ps : List PV} : gTup gs (.tup ps) ρ = gs ps ρ := id rfl
@[simp] theorem ap_gsCons {gs : List PV → Env → Option Env} {ps : List PV} : gsCons dg gs (p :: ps) ρ = (dg p ρ).bind (gs ps) := id rfl
@[simp] theorem ap_gsNil : gsNil [] ρ = some ρ := id rfl
@[simp] theorem ap_iSeq : iSeq da ρ = (da ρ).bind fun p ρ1 => opt (seqOf p) ρ1 := id rfl
@[simp] theorem ap_seqL {ps : List PV} : seqOf (.lst ps) = some ps := id rfl
@[simp] theorem ap_seqT {ps : List PV} : seqOf (.tup ps) = some ps := id rfl
@[simp] theorem ap_seqS {x : Str} : seqOf (.str x) = some (signs x) := id rfl
def rg1 (ps : List PV) (ρ1 : Env) : Rs (List PV) := match ps with
  | [.int j] => if decide (-(2 ^ 62) ≤ j) && decide (j < 2 ^ 62) then .ok (rangeP 0 j.toNat) ρ1 else .bad
  | _ => .bad
def rg2 (ps : List PV) (ρ1 : Env) : Rs (List PV) := match ps with
  | [.int i, .int j] => if (decide (-(2 ^ 62) ≤ i) && decide (i < 2 ^ 62)) && (decide (-(2 ^ 62) ≤ j) && decide (j < 2 ^ 62)) then .ok (rangeP i (j - i).toNat) ρ1 else .bad
  | _ => .bad
@[simp] theorem ap_iR1 : iR1 dl ρ = (dl ρ).bind fun ps ρ1 => rg1 ps ρ1 := id rfl
@[simp] theorem ap_iR2 : iR2 dl ρ = (dl ρ).bind fun ps ρ1 => rg2 ps ρ1 := id rfl
theorem rg1_ok {j : Int} (h1 : -1000000000 ≤ j) (h2 : j ≤ 1000000000) : rg1 [.int j] ρ = .ok (rangeP 0 j.toNat) ρ := by
  have h1 : decide (-(2 ^ 62) ≤ j) = true := decide_eq_true (by omega)
  have h2 : decide (j < 2 ^ 62) = true := decide_eq_true (by omega)
  simp only [rg1, h1, h2]
  rfl
theorem rg2_ok {i j : Int} (h1 : -1000000000 ≤ i) (h2 : i ≤ 1000000000) (h3 : -1000000000 ≤ j) (h4 : j ≤ 1000000000) : rg2 [.int i, .int j] ρ = .ok (rangeP i (j - i).toNat) ρ := by
  have h1 : decide (-(2 ^ 62) ≤ i) = true := decide_eq_true (by omega)
  have h2 : decide (i < 2 ^ 62) = true := decide_eq_true (by omega)
  have h3 : decide (-(2 ^ 62) ≤ j) = true := decide_eq_true (by omega)
  have h4 : decide (j < 2 ^ 62) = true := decide_eq_true (by omega)
  simp only [rg2, h1, h2, h3, h4]
  rfl
theorem rg1_nat {n : Nat} (h : n ≤ 1000000000) : rg1 [.int (n : Int)] ρ = .ok (rangeP 0 n) ρ := by
  rw [rg1_ok (by omega) (by omega)]; rfl
/-! operations -/
@[simp] theorem ap_addI (i j : Int) : gAdd (.int i) (.int j) = some (.int (i + j)) := id rfl
@[simp] theorem ap_addS (x y : Str) : gAdd (.str x) (.str y) = if x.length + y.length ≤ sizeLine then some (.str (x ++ y)) else none := id rfl
@[simp] theorem ap_addL (x y : List PV) : gAdd (.lst x) (.lst y) = if x.length + y.length ≤ sizeLine then some (.lst (x ++ y)) else none := id rfl
@[simp] theorem ap_augI (i j : Int) : gAugAdd (.int i) (.int j) = some (.int (i + j)) := id rfl
@[simp] theorem ap_augS (x y : Str) : gAugAdd (.str x) (.str y) = if x.length + y.length ≤ sizeLine then some (.str (x ++ y)) else none := id rfl
@[simp] theorem ap_subI (i j : Int) : gSub (.int i) (.int j) = some (.int (i - j)) := id rfl
@[simp] theorem ap_mulI (i j : Int) : gMul (.int i) (.int j) = if smallI i || smallI j then some (.int (i * j)) else none := id rfl
@[simp] theorem ap_fdivI (i j : Int) : gFdiv (.int i) (.int j) = if decide (0 < j) && decide (j < 1073741824) then some (.int (i / j)) else none := id rfl
@[simp] theorem ap_modI (i j : Int) : gMod (.int i) (.int j) = if decide (0 < j) then some (.int (i % j)) else none := id rfl
@[simp] theorem ap_powI (i j : Int) : gPow (.int i) (.int j) = if decide (0 ≤ j) && decide (j ≤ 1000000) && decide (i.natAbs < 2 ^ 64) then some (.int (i ^ j.toNat)) else none := id rfl
@[simp] theorem ap_negI (i : Int) : gNeg (.int i) = some (.int (-i)) := id rfl
@[simp] theorem ap_cmpI (f : Int → Int → Bool) (i j : Int) : gCmpI f (.int i) (.int j) = some (.bl (f i j)) := id rfl
@[simp] theorem ap_intI (i : Int) : gInt [.int i] = some (.int i) := id rfl
@[simp] theorem ap_intB (b : Bool) : gInt [.bl b] = some (.int (if b then 1 else 0)) := id rfl
@[simp] theorem ap_absI (i : Int) : gAbs [.int i] = some (.int (if i < 0 then -i else i)) := id rfl
@[simp] theorem ap_max2 (i j : Int) : gMax2 [.int i, .int j] = some (.int (if j > i then j else i)) := id rfl
@[simp] theorem ap_min2 (i j : Int) : gMin2 [.int i, .int j] = some (.int (if j < i then j else i)) := id rfl
@[simp] theorem ap_lenL (ps : List PV) : gLen (.lst ps) = some (.int ps.length) := id rfl
@[simp] theorem ap_lenK (ps : List PV) : gLen (.klst ps) = some (.int ps.length) := id rfl
@[simp] theorem ap_lenT (ps : List PV) : gLen (.tup ps) = some (.int ps.length) := id rfl
@[simp] theorem ap_lenS (x : Str) : gLen (.str x) = if x.length ≤ sizeLine then some (.int x.length) else none := id rfl
@[simp] theorem ap_lenN : gLenN [p] = gLen p := id rfl
@[simp] theorem ap_ixL (ps : List PV) (i : Int) : gIx (.lst ps) (.int i) = atI ps i := id rfl
@[simp] theorem ap_ixT (ps : List PV) (i : Int) : gIx (.tup ps) (.int i) = atI ps i := id rfl
@[simp] theorem ap_ixK (ps : List PV) (i : Int) : gIx (.klst ps) (.int i) = atI ps i := id rfl
@[simp] theorem ap_ixS (z : Str) (i : Int) : gIx (.str z) (.int i) = if z.length ≤ sizeLine then (atI z.cps.toList i).map fun c => .str ⟨#[c]⟩ else none := id rfl
@[simp] theorem ap_app (ps : List PV) (p : PV) : gAppend (.lst ps) [p] = if ps.length < sizeLine then some (.lst (ps ++ [p]), .non) else none := id rfl
@[simp] theorem ap_pop (ps : List PV) : gPop (.lst ps) [] = (ps[ps.length - 1]?).map fun p => (.lst ps.dropLast, p) := id rfl
@[simp] theorem ap_rev (ps : List PV) : gReverse (.lst ps) [] = some (.lst ps.reverse, .non) := id rfl
@[simp] theorem ap_setL (ps : List PV) (i : Int) (e : PV) : gSetL (.lst ps) (.int i) e = (ixN ps.length i).map fun j => .lst (ps.set j e) := id rfl
@[simp] theorem ap_cat (ps qs : List PV) : gCat (.lst ps) (.lst qs) = if ps.length + qs.length ≤ sizeLine then some (.lst (ps ++ qs)) else none := id rfl
end
end PL

set_option Elab.async false
set_option linter.all false
set_option maxRecDepth 100000
set_option maxHeartbeats 4000000
namespace PL
open PySem PySem.Spec L2
set_option autoImplicit false
/-! ### loops -/
theorem seq_nx {a b : DenS} {ρ ρ1 : Env} (h : a ρ = .nx ρ1) : sSeq a b ρ = b ρ1 := by rw [ap_sSeq, h]

theorem dLoop_inv {tgt : DenG} {body : DenS} {items : List PV} (Inv : Nat → Env → Prop) (h : ∀ i x ρ, items[i]? = some x → Inv i ρ → ∃ ρ1 ρ2, tgt x ρ = some ρ1 ∧ (body ρ1 = .nx ρ2 ∨ body ρ1 = .ct ρ2) ∧ Inv (i + 1) ρ2) {ρ0 : Env} (h0 : Inv 0 ρ0) :
    ∃ ρ, dLoop tgt body items ρ0 = .nx ρ ∧ Inv items.length ρ := by
  induction items generalizing Inv ρ0 with
  | nil => exact ⟨ρ0, rfl, h0⟩
  | cons x xs ih =>
    obtain ⟨ρ1, ρ2, e1, e2, h2⟩ := h 0 x ρ0 rfl h0
    obtain ⟨ρ, e3, h3⟩ := ih (fun i => Inv (i + 1)) (fun i y ρ hy hi => h (i + 1) y ρ (by simpa using hy) hi) h2
    refine ⟨ρ, ?_, h3⟩
    unfold dLoop
    rw [e1]
    rcases e2 with e2 | e2
    · simp only [e2]; exact e3
    · simp only [e2]; exact e3
/-- .. or it ends the def -/
theorem dLoop_or {tgt : DenG} {body : DenS} {items : List PV} (Inv : Nat → Env → Prop) (R : RS → Prop) (h : ∀ i x ρ, items[i]? = some x → Inv i ρ → ∃ ρ1, tgt x ρ = some ρ1 ∧ ((∃ ρ2, (body ρ1 = .nx ρ2 ∨ body ρ1 = .ct ρ2) ∧ Inv (i + 1) ρ2) ∨ (∃ ρ2, body ρ1 = .bk ρ2 ∧ R (.nx ρ2)) ∨ (∃ p ρ2, body ρ1 = .rt p ρ2 ∧ R (.rt p ρ2)) ∨ ∃ e ρ2, body ρ1 = .exc e ρ2 ∧ R (.exc e ρ2)))
    (hR : ∀ ρ, Inv items.length ρ → R (.nx ρ)) {ρ0 : Env} (h0 : Inv 0 ρ0) : R (dLoop tgt body items ρ0) := by
  induction items generalizing Inv ρ0 with
  | nil => exact hR _ h0
  | cons x xs ih =>
    obtain ⟨ρ1, e1, h2⟩ := h 0 x ρ0 rfl h0
    unfold dLoop
    rw [e1]
    rcases h2 with ⟨ρ2, e2, h2⟩ | ⟨ρ2, e2, h2⟩ | ⟨p, ρ2, e2, h2⟩ | ⟨e, ρ2, e2, h2⟩
    · have z := ih (fun i => Inv (i + 1)) (fun i y ρ hy hi => h (i + 1) y ρ (by simpa using hy) hi) (fun ρ hi => hR ρ hi) h2
      rcases e2 with e2 | e2
      · simp only [e2]; exact z
      · simp only [e2]; exact z
    · simp only [e2]; exact h2
    · simp only [e2]; exact h2
    · simp only [e2]; exact h2
/-- a comprehension, its items one by one -/
theorem lcLoop_inv {own : List Nat} {tgt : DenG} {test : DenB} {elt : Den} {items : List PV} (Inv : Nat → List PV → Env → Prop)
    (h : ∀ i x ys ρ, items[i]? = some x → Inv i ys ρ → ∃ ρ1, tgt x ρ = some ρ1 ∧ ((∃ ρ2 y ρ3, test ρ1 = .ok true ρ2 ∧ elt ρ2 = .ok y ρ3 ∧ noOw ρ3 = true ∧ Inv (i + 1) (ys ++ [y]) (wipeE own ρ3)) ∨ (∃ ρ2, test ρ1 = .ok false ρ2 ∧ noOw ρ2 = true ∧ Inv (i + 1) ys (wipeE own ρ2)))) :
    ∀ {ρ0 : Env} {ys0 : List PV}, Inv 0 ys0 ρ0 → ∃ ys ρ, lcLoop own tgt test elt items ρ0 = some (ys, ρ) ∧ Inv items.length (ys0 ++ ys) ρ := by
  induction items generalizing Inv with
  | nil => intro ρ0 ys0 h0; exact ⟨[], ρ0, rfl, by rw [List.append_nil]; exact h0⟩
  | cons x xs ih =>
    intro ρ0 ys0 h0
    obtain ⟨ρ1, e1, h2⟩ := h 0 x ys0 ρ0 rfl h0
    have h' : ∀ i y ys ρ, xs[i]? = some y → Inv (i + 1) ys ρ → _ := fun i y ys ρ hy hi => h (i + 1) y ys ρ (by simpa using hy) hi
    rcases h2 with ⟨ρ2, y, ρ3, e2, e3, e4, h2⟩ | ⟨ρ2, e2, e4, h2⟩
    · obtain ⟨ys, ρ, e5, h5⟩ := ih (fun i => Inv (i + 1)) h' h2
      refine ⟨y :: ys, ρ, ?_, by rw [List.append_assoc] at h5; exact h5⟩
      unfold lcLoop
      simp only [e1, e2, e3, e4, e5, if_true]
    · obtain ⟨ys, ρ, e5, h5⟩ := ih (fun i => Inv (i + 1)) h' h2
      refine ⟨ys, ρ, ?_, h5⟩
      unfold lcLoop
      simp only [e1, e2, e4, e5, if_true]
theorem rangeP_get {lo : Int} {n i : Nat} {x : PV} (h : (rangeP lo n)[i]? = some x) : i < n ∧ x = .int (lo + i) := by
  unfold rangeP at h
  rw [List.getElem?_map] at h
  cases e : (List.range n)[i]? with
  | none => rw [e] at h; cases h
  | some c =>
    rw [e] at h; cases h
    have hi := (List.getElem?_eq_some_iff.mp e).1
    rw [List.length_range] at hi
    rw [List.getElem?_range hi] at e
    cases e
    exact ⟨hi, rfl⟩
@[simp] theorem rangeP_len {lo : Int} {n : Nat} : (rangeP lo n).length = n := by simp [rangeP]
/-! ### the deck -/
def den_take : DenS :=
  (sSeq (sIf (bVal (d2 gEq (d1v gLen 0) (dC (.int 0)))) (sRet (dC (.int 0))) sNx)
    (sRet (dMod (dN gInt (dCons (dMut0 "list" gPop 0) dNil)) (dVar 1))))
def F_take : List PV → FR := runD true false 2 2 den_take
def B_deck_2 : DenS :=
  (sSeq (sExpr (dMut "list" gAppend 3 (dCons (dMod (dN gInt (dCons (dVar 7) dNil)) (dC (.int 1000003))) dNil)))
    (sSet 7 (dFdiv (dVar 7) (dC (.int 1000003)))))
def B_deck_3 : DenS :=
  (sSeq (sSet 4 (dMod (dN gInt (dCons (dAdd (dAdd (dMul (dVar 4) (dC (.int 69621))) (dVar 8)) (dC (.int 1))) dNil)) (dC (.int 2147483629))))
    (sExpr (dMut "list" gAppend 3 (dCons (dMod (dN gInt (dCons (dFdiv (dVar 4) (dC (.int 5))) dNil)) (dC (.int 1000003))) dNil))))
def B_deck_1 : DenS :=
  (sSeq (sSet 6 (dC (.int 0)))
    (sSeq (sIf (bVal (d2 gLt (dVar 5) (dN gLenN (dCons (dVar 0) dNil)))) (sSet 6 (d2 gIx (dVar 0) (dVar 5))) sNx)
    (sSeq (sSet 7 (dN gAbs (dCons (dVar 6) dNil)))
    (sIf (bVal (d2 gGe (dVar 7) (dPow (dC (.int 10)) (dC (.int 30))))) (sFor (iR1 (dCons (dVar 2) dNil)) (gName 8) B_deck_2) (sSeq (sSet 4 (dMod (dN gInt (dCons (dAdd (dAdd (dAdd (dMul (dVar 4) (dC (.int 48271))) (dMul (dC (.int 2)) (dVar 7))) (dN gInt (dCons (d2 gLt (dVar 6) (dC (.int 0))) dNil))) (dVar 5)) dNil)) (dC (.int 2147483647))))
    (sFor (iR1 (dCons (dVar 2) dNil)) (gName 8) B_deck_3))))))
def den_deck : DenS :=
  (sSeq (sSetF 3 (dLst dNil))
    (sSeq (sSet 4 (dAdd (dC (.int 7)) (dN gLenN (dCons (dVar 0) dNil))))
    (sSeq (sFor (iR1 (dCons (dVar 1) dNil)) (gName 5) B_deck_1)
    (sSeq (sExpr (dMut0 "list" gReverse 3))
    (sRetO 3)))))
def F_deck : List PV → FR := runD false true 3 9 den_deck
def den_plain (F_plain : List PV → FR) : DenS :=
  (sSeq (sIf (bTru (d1 (gIsi2 "tuple" "list") (dVar 0))) (sRet (dAdd (dLst (dCons (d1 (gIsi "list") (dVar 0)) dNil)) (dLc ([(("item" : Str), 1)].map (·.2)) (iSeq (dVar 0)) (gName 1) bYes (dCall F_plain (dCons (dVar 1) dNil))))) sNx)
    (sSeq (sIf (bOr (bVal (d2 (gIsN false) (dVar 0) (dC .non))) (bTru (d1 (gIsi "bool") (dVar 0)))) (sRet (d2 gIx (dLst (dCons (dC (.str ("None" : Str))) (dCons (dC (.str ("False" : Str))) (dCons (dC (.str ("True" : Str))) dNil)))) (dAdd (dN gInt (dCons (d2 (gIsN true) (dVar 0) (dC .non)) dNil)) (dN gInt (dCons (d2 (gIsBB false) (dVar 0) (dC (.bl true))) dNil))))) sNx)
    (sSeq (sIf (bTru (d1 (gIsi2 "int" "str") (dVar 0))) (sRet (dLst (dCons (d1 (gIsi "str") (dVar 0)) (dCons (dVar 0) dNil)))) sNx)
    (sRet (dC (.str ("another" : Str)))))))
def F_plain_ : Nat → List PV → FR
  | 0 => runD false false 1 2 (fun _ => .bad)
  | n + 1 => runD false false 1 2 (den_plain (F_plain_ n))
/-- a deck: the next card first -/
def dk (ds : List Int) : PV := .lst (ds.reverse.map .int)
def tk : List Int → Int → Int × List Int
  | [], _ => (0, [])
  | x :: ds, m => (x % m, ds)
theorem tk_lt {ds : List Int} {m : Int} (h : 0 < m) : 0 ≤ (tk ds m).1 ∧ (tk ds m).1 < m := by
  cases ds with
  | nil => exact ⟨Int.le_refl 0, h⟩
  | cons x ds => exact ⟨Int.emod_nonneg _ (by omega), Int.emod_lt_of_pos _ h⟩
@[simp] theorem shaped_int (i : Int) : SeqAt.shaped (PV.toD (.int i)) = true := rfl
theorem eqv_int (i j : Int) : PyData.eqv (.int i) (.int j) = decide (i = j) := by
  simp only [PyData.eqv]
  by_cases h : i = j <;> simp [h]
@[simp] theorem pvEq_int (i j : Int) : pvEq (.int i) (.int j) = decide (i = j) := eqv_int i j
@[simp] theorem ap_eqI (i j : Int) : gEq (.int i) (.int j) = some (.bl (decide (i = j))) := by
  unfold gEq; simp
@[simp] theorem ap_neI (i j : Int) : gNe (.int i) (.int j) = some (.bl (!decide (i = j))) := by
  unfold gNe; simp
theorem F_take_eq {ds : List Int} {m : Int} (h : 0 < m) : F_take [dk ds, .int m] = .ok (.int (tk ds m).1) (dk (tk ds m).2) := by
  cases ds with
  | nil => simp [F_take, den_take, runD, argSl, dk, tk, fin0, io0]
  | cons x ds =>
    have h0 : ¬ ((ds.length : Int) + 1 = 0) := by omega
    simp [F_take, den_take, runD, argSl, dk, tk, fin0, io0, h, h0]

theorem ixN_nat {n i : Nat} (h : i < n) : ixN n (i : Int) = some i := by
  unfold ixN
  rw [if_pos (by omega), if_pos (by omega)]
  simp
theorem atI_nat {α : Type} {xs : List α} {i : Nat} (h : i < xs.length) : L2.atI xs (i : Int) = some xs[i] := by
  unfold L2.atI
  rw [ixN_nat h]
  exact List.getElem?_eq_getElem h
/-- the deck's slots -/
def dkE (sc : PV) (c e : Nat) (ds : List Int) (seed : Int) (s5 s6 s7 s8 : Sl) : Env := [.sh sc, .sh (.int c), .sh (.int e), .ow (.lst (ds.map .int)), .sh (.int seed), s5, s6, s7, s8]
theorem app_int {ds : List Int} {x : Int} (h : ds.length < sizeLine) : gAppend (.lst (ds.map .int)) [.int x] = some (.lst ((ds ++ [x]).map .int), .non) := by
  rw [ap_app, List.length_map, if_pos h, List.map_append]; rfl
theorem deck_one2 {sc : PV} {c e i : Nat} {ds : List Int} {seed rest : Int} {s5 s6 s8 : Sl} (h : ds.length < sizeLine) :
    B_deck_2 (dkE sc c e ds seed s5 s6 (.sh (.int rest)) s8) = .nx (dkE sc c e (ds ++ [rest % 1000003]) seed s5 s6 (.sh (.int (rest / 1000003))) s8) := by
  simp [B_deck_2, dkE, h]
theorem deck_in2 {sc : PV} {c e : Nat} {ds : List Int} {seed : Int} {s5 s6 s8 : Sl} {rest : Int} (hr : ds.length + e ≤ sizeLine) (he : e ≤ 1000000000) :
    ∃ (ds' : List Int) (s7 s8' : Sl), ds'.length = ds.length + e ∧ sFor (iR1 (dCons (dVar 2) dNil)) (gName 8) B_deck_2 (dkE sc c e ds seed s5 s6 (.sh (.int rest)) s8) = .nx (dkE sc c e ds' seed s5 s6 s7 s8') := by
  obtain ⟨ρ, h1, ds', rest', s8', h2, h3⟩ := dLoop_inv (tgt := gName 8) (body := B_deck_2) (items := rangeP 0 e) (ρ0 := dkE sc c e ds seed s5 s6 (.sh (.int rest)) s8)
    (fun i ρ => ∃ (ds' : List Int) (rest : Int) (s8 : Sl), ds'.length = ds.length + i ∧ ρ = dkE sc c e ds' seed s5 s6 (.sh (.int rest)) s8)
    (fun i x ρ hx hi => by
      obtain ⟨hie, rfl⟩ := rangeP_get hx
      obtain ⟨ds', rest, s8, hl, rfl⟩ := hi
      exact ⟨_, _, rfl, .inl (deck_one2 (i := 0) (by omega)), ⟨_, _, _, by rw [List.length_append, hl]; rfl, rfl⟩⟩) ⟨ds, rest, s8, rfl, rfl⟩
  refine ⟨ds', .sh (.int rest'), s8', by rw [h2, rangeP_len], ?_⟩
  rw [← h3, ← h1]
  simp [dkE, rg1_nat he]
theorem deck_one3 {sc : PV} {c e : Nat} {ds : List Int} {seed j : Int} {s5 s6 s7 : Sl} (h : ds.length < sizeLine) :
    B_deck_3 (dkE sc c e ds seed s5 s6 s7 (.sh (.int j))) = .nx (dkE sc c e (ds ++ [(seed * 69621 + j + 1) % 2147483629 / 5 % 1000003]) ((seed * 69621 + j + 1) % 2147483629) s5 s6 s7 (.sh (.int j))) := by
  simp [B_deck_3, dkE, h, smallI]
theorem deck_in3 {sc : PV} {c e : Nat} {ds : List Int} {seed : Int} {s5 s6 s7 s8 : Sl} (hr : ds.length + e ≤ sizeLine) (he : e ≤ 1000000000) :
    ∃ (ds' : List Int) (seed' : Int) (s8' : Sl), ds'.length = ds.length + e ∧ sFor (iR1 (dCons (dVar 2) dNil)) (gName 8) B_deck_3 (dkE sc c e ds seed s5 s6 s7 s8) = .nx (dkE sc c e ds' seed' s5 s6 s7 s8') := by
  obtain ⟨ρ, h1, ds', seed', s8', h2, h3⟩ := dLoop_inv (tgt := gName 8) (body := B_deck_3) (items := rangeP 0 e) (ρ0 := dkE sc c e ds seed s5 s6 s7 s8)
    (fun i ρ => ∃ (ds' : List Int) (seed : Int) (s8 : Sl), ds'.length = ds.length + i ∧ ρ = dkE sc c e ds' seed s5 s6 s7 s8)
    (fun i x ρ hx hi => by
      obtain ⟨hie, rfl⟩ := rangeP_get hx
      obtain ⟨ds', seed, s8, hl, rfl⟩ := hi
      exact ⟨_, _, rfl, .inl (deck_one3 (by omega)), ⟨_, _, _, by rw [List.length_append, hl]; rfl, rfl⟩⟩) ⟨ds, seed, s8, rfl, rfl⟩
  refine ⟨ds', seed', s8', by rw [h2, rangeP_len], ?_⟩
  rw [← h3, ← h1]
  simp [dkE, rg1_nat he]
theorem deck_one1 {ns : List Int} {c e i : Nat} {ds : List Int} {seed : Int} {s6 s7 s8 : Sl} (hr : ds.length + e ≤ sizeLine) (he : e ≤ 1000000000) :
    ∃ (ds' : List Int) (seed' : Int) (s6' s7' s8' : Sl), ds'.length = ds.length + e ∧
      B_deck_1 (dkE (.klst (ns.map .int)) c e ds seed (.sh (.int (i : Nat))) s6 s7 s8) = .nx (dkE (.klst (ns.map .int)) c e ds' seed' (.sh (.int (i : Nat))) s6' s7' s8') := by
  obtain ⟨cell, h1⟩ : ∃ cell : Int, sIf (bVal (d2 gLt (dVar 5) (dN gLenN (dCons (dVar 0) dNil)))) (sSet 6 (d2 gIx (dVar 0) (dVar 5))) sNx (dkE (.klst (ns.map .int)) c e ds seed (.sh (.int (i : Nat))) (.sh (.int 0)) s7 s8) = .nx (dkE (.klst (ns.map .int)) c e ds seed (.sh (.int (i : Nat))) (.sh (.int cell)) s7 s8) := by
    by_cases h : i < ns.length
    · refine ⟨ns[i], ?_⟩
      have h1 : L2.atI (ns.map PV.int) (i : Int) = some (.int ns[i]) := by
        rw [atI_nat (by rw [List.length_map]; exact h), List.getElem_map]
      simp [dkE, h, h1]
    · refine ⟨0, ?_⟩
      simp [dkE, h]
  have h2 : sSet 6 (dC (.int 0)) (dkE (.klst (ns.map .int)) c e ds seed (.sh (.int (i : Nat))) s6 s7 s8) = .nx (dkE (.klst (ns.map .int)) c e ds seed (.sh (.int (i : Nat))) (.sh (.int 0)) s7 s8) := by simp [dkE]
  have h3 : ∀ s7, sSet 7 (dN gAbs (dCons (dVar 6) dNil)) (dkE (.klst (ns.map .int)) c e ds seed (.sh (.int (i : Nat))) (.sh (.int cell)) s7 s8) = .nx (dkE (.klst (ns.map .int)) c e ds seed (.sh (.int (i : Nat))) (.sh (.int cell)) (.sh (.int (if cell < 0 then -cell else cell))) s8) := fun s7 => by simp [dkE]
  unfold B_deck_1
  rw [ap_sSeq, h2]
  simp only
  rw [ap_sSeq, h1]
  simp only
  rw [ap_sSeq, h3]
  simp only
  generalize (if cell < 0 then -cell else cell) = rest
  by_cases hb : (10 : Int) ^ 30 ≤ rest
  · obtain ⟨ds', s7', s8', h4, h5⟩ := deck_in2 (sc := .klst (ns.map .int)) (c := c) (e := e) (ds := ds) (seed := seed) (s5 := .sh (.int (i : Nat))) (s6 := .sh (.int cell)) (s8 := s8) (rest := rest) hr he
    refine ⟨ds', seed, .sh (.int cell), s7', s8', h4, ?_⟩
    rw [← h5]
    have hb : (1000000000000000000000000000000 : Int) ≤ rest := hb
    simp [dkE, hb]
  · obtain ⟨ds', seed', s8', h4, h5⟩ := deck_in3 (sc := .klst (ns.map .int)) (c := c) (e := e) (ds := ds) (seed := (seed * 48271 + 2 * rest + (if cell < 0 then 1 else 0) + i) % 2147483647) (s5 := .sh (.int (i : Nat))) (s6 := .sh (.int cell)) (s7 := .sh (.int rest)) (s8 := s8) hr he
    refine ⟨ds', seed', .sh (.int cell), .sh (.int rest), s8', h4, ?_⟩
    rw [← h5]
    have hb : ¬ (1000000000000000000000000000000 : Int) ≤ rest := hb
    simp [dkE, hb, smallI]
theorem F_deck_eq {ns : List Int} {c e : Nat} (h : c * e ≤ sizeLine) (hc : c ≤ 1000000000) (he : e ≤ 1000000000) : ∃ ds : List Int, F_deck [.klst (ns.map .int), .int c, .int e] = .ok (dk ds) .non := by
  obtain ⟨ρ, h1, ds, seed, s5, s6, s7, s8, h2, h3⟩ := dLoop_inv (tgt := gName 5) (body := B_deck_1) (items := rangeP 0 c) (ρ0 := dkE (.klst (ns.map .int)) c e [] (7 + ns.length) .un .un .un .un)
    (fun i ρ => ∃ (ds : List Int) (seed : Int) (s5 s6 s7 s8 : Sl), ds.length = i * e ∧ ρ = dkE (.klst (ns.map .int)) c e ds seed s5 s6 s7 s8)
    (fun i x ρ hx hi => by
      obtain ⟨hic, rfl⟩ := rangeP_get hx
      obtain ⟨ds, seed, s5, s6, s7, s8, hl, rfl⟩ := hi
      have hm : (i + 1) * e ≤ c * e := Nat.mul_le_mul_right _ hic
      rw [Nat.succ_mul] at hm
      obtain ⟨ds', seed', s6', s7', s8', h4, h5⟩ := deck_one1 (ns := ns) (c := c) (e := e) (i := i) (ds := ds) (seed := seed) (s6 := s6) (s7 := s7) (s8 := s8) (by omega) he
      rw [Int.zero_add]
      exact ⟨_, _, rfl, .inl h5, ⟨ds', seed', _, s6', s7', s8', by rw [h4, hl, Nat.succ_mul], rfl⟩⟩) ⟨[], _, _, _, _, _, by simp, rfl⟩
  refine ⟨ds, ?_⟩
  subst h3
  have h4 : sFor (iR1 (dCons (dVar 1) dNil)) (gName 5) B_deck_1 (dkE (.klst (ns.map .int)) c e [] (7 + ns.length) .un .un .un .un) = .nx (dkE (.klst (ns.map .int)) c e ds seed s5 s6 s7 s8) := by
    rw [← h1]
    simp [dkE, rg1_nat hc]
  have h5 : sSeq (sExpr (dMut0 "list" gReverse 3)) (sRetO 3) (dkE (.klst (ns.map .int)) c e ds seed s5 s6 s7 s8) = .rt (dk ds) (.sh (.klst (ns.map .int)) :: .sh (.int c) :: .sh (.int e) :: .un :: .sh (.int seed) :: [s5, s6, s7, s8]) := by
    simp [dkE, dk]
  have h6 : den_deck (argSl false [.klst (ns.map .int), .int c, .int e] ++ List.replicate (9 - 3) .un) = .rt (dk ds) (.sh (.klst (ns.map .int)) :: .sh (.int c) :: .sh (.int e) :: .un :: .sh (.int seed) :: [s5, s6, s7, s8]) := by
    unfold den_deck
    rw [seq_nx (ρ1 := [.sh (.klst (ns.map .int)), .sh (.int c), .sh (.int e), .ow (.lst []), .un, .un, .un, .un, .un]) (by simp [argSl, List.replicate]),
      seq_nx (ρ1 := dkE (.klst (ns.map .int)) c e [] (7 + ns.length) .un .un .un .un) (by simp [dkE]), seq_nx h4, h5]
  simp only [F_deck, runD, h6, fin0]
  simp
end PL

set_option Elab.async false
set_option linter.all false
set_option maxRecDepth 100000
set_option maxHeartbeats 4000000
namespace PL
open PySem PySem.Spec L2
set_option autoImplicit false
/-! ### what _law_plain tells -/
mutual
def plainP : PV → PV
  | .non => .str "None"
  | .bl false => .str "False"
  | .bl true => .str "True"
  | .int i => .lst [.bl false, .int i]
  | .str x => .lst [.bl true, .str x]
  | .lst ps => .lst (.bl true :: plainPs ps)
  | .tup ps => .lst (.bl false :: plainPs ps)
  | .ktup ps => .lst (.bl false :: plainPs ps)
  | .klst _ => .str "another"
  | .dic _ _ _ => .str "another"
  | .fn _ => .str "another"
def plainPs : List PV → List PV
  | [] => []
  | p :: ps => plainP p :: plainPs ps
end
mutual
/-- of depth under n, of no great length -/
def okD : Nat → PV → Bool
  | 0, _ => false
  | n + 1, .lst ps => decide (ps.length ≤ 100000) && okDs n ps
  | n + 1, .tup ps => decide (ps.length ≤ 100000) && okDs n ps
  | n + 1, .ktup ps => decide (ps.length ≤ 100000) && okDs n ps
  | _ + 1, .str x => PyData.canLay0 (.str x)
  | _ + 1, .klst _ => false
  | _ + 1, .dic _ _ _ => false
  | _ + 1, .fn _ => false
  | _ + 1, _ => true
def okDs : Nat → List PV → Bool
  | _, [] => true
  | n, p :: ps => okD n p && okDs n ps
end
theorem okDs_iff {n : Nat} : ∀ {ps : List PV}, okDs n ps = true ↔ ∀ p ∈ ps, okD n p = true
  | [] => by simp [okDs]
  | p :: ps => by simp [okDs, okDs_iff (ps := ps)]
theorem plainPs_len : ∀ ps : List PV, (plainPs ps).length = ps.length
  | [] => rfl
  | p :: ps => by simp [plainPs, plainPs_len ps]
theorem plainPs_map : ∀ ps : List PV, plainPs ps = ps.map plainP
  | [] => rfl
  | p :: ps => by simp [plainPs, plainPs_map ps]
theorem lc_plain {n : Nat} {q : PV} (ih : ∀ p, okD n p = true → F_plain_ n [p] = .ok (plainP p) .non) : ∀ (ps : List PV), okDs n ps = true →
    lcLoop [1] (gName 1) bYes (dCall (F_plain_ n) (dCons (dVar 1) dNil)) ps [.sh q, .un] = some (plainPs ps, [.sh q, .un])
  | [], _ => rfl
  | p :: ps, h => by
    have h : okD n p = true ∧ okDs n ps = true := by simpa [okDs] using h
    unfold lcLoop
    simp [ih p h.1, noOw, Sl.isOw, wipeE, lc_plain ih ps h.2, plainPs]
theorem F_plain_eq : ∀ (n : Nat) (p : PV), okD n p = true → F_plain_ n [p] = .ok (plainP p) .non
  | 0, p, h => by simp [okD] at h
  | n + 1, p, h => by
    have ih := F_plain_eq n
    have seq : ∀ (ps : List PV) (q : PV) (b : Bool), seqOf q = some ps → ps.length ≤ 100000 → okDs n ps = true → gIsi2 "tuple" "list" q = some (.bl true) → gIsi "list" q = some (.bl b) → F_plain_ (n + 1) [q] = .ok (.lst (.bl b :: plainPs ps)) .non := by
      intro ps q b h1 h2 h3 h4 h5
      have h6 : ps.length ≤ 1000000 := by omega
      have h7 : 1 + ps.length ≤ sizeLine := by rw [sizeLine_eq]; omega
      have h8 : (1 : Nat) ≤ sizeLine := by rw [sizeLine_eq]; omega
      simp [F_plain_, runD, argSl, den_plain, List.replicate, fin0, h1, h4, h5, truth, lockE, Sl.lock, lc_plain ih ps h3, plainPs_len, h6, h7, h8, backE, List.range, List.range.loop, Sl.back, clean]
    cases p with
    | lst ps =>
      have h : ps.length ≤ 100000 ∧ okDs n ps = true := by simpa [okD] using h
      exact seq ps _ true rfl h.1 h.2 rfl rfl
    | tup ps =>
      have h : ps.length ≤ 100000 ∧ okDs n ps = true := by simpa [okD] using h
      exact seq ps _ false rfl h.1 h.2 rfl rfl
    | ktup ps =>
      have h : ps.length ≤ 100000 ∧ okDs n ps = true := by simpa [okD] using h
      exact seq ps _ false rfl h.1 h.2 rfl rfl
    | non => rfl
    | bl b => cases b <;> rfl
    | int i => rfl
    | str x => rfl
    | klst ps => simp [okD] at h
    | dic t ks vs => simp [okD] at h
    | fn a => simp [okD] at h
end PL

set_option Elab.async false
set_option linter.all false
set_option maxRecDepth 100000
set_option maxHeartbeats 4000000
namespace PL
open PySem PySem.Spec L2
set_option autoImplicit false
/-! ### slots lent and given back -/
section
variable (p q : PV)
@[simp] theorem lock_un : Sl.lock .un = .un := id rfl
@[simp] theorem lock_sh : Sl.lock (.sh p) = .sh p := id rfl
@[simp] theorem lock_ow : Sl.lock (.ow p) = .io p := id rfl
@[simp] theorem lock_io : Sl.lock (.io p) = .io p := id rfl
@[simp] theorem back_ow : Sl.back (.ow p) (.io q) = .ow q := id rfl
@[simp] theorem back_io : Sl.back (.io p) (.io q) = .io q := id rfl
@[simp] theorem back_sh : Sl.back (.sh p) (.sh q) = .sh q := id rfl
@[simp] theorem back_owsh : Sl.back (.ow p) (.sh q) = .sh q := id rfl
@[simp] theorem back_un : Sl.back .un .un = .un := id rfl
@[simp] theorem clean_un : clean .un = .un := id rfl
@[simp] theorem clean_sh : clean (.sh p) = .sh p := id rfl
@[simp] theorem isOw_un : Sl.isOw .un = false := id rfl
@[simp] theorem isOw_sh : Sl.isOw (.sh p) = false := id rfl
@[simp] theorem isOw_io : Sl.isOw (.io p) = false := id rfl
@[simp] theorem noOw_nil : noOw [] = true := id rfl
@[simp] theorem noOw_cons (s : Sl) (r : Env) : noOw (s :: r) = (!s.isOw && noOw r) := id rfl
end
def sl : Option PV → Sl
  | none => .un
  | some p => .sh p
@[simp] theorem sl_lock (o : Option PV) : Sl.lock (sl o) = sl o := by cases o <;> rfl
@[simp] theorem sl_back (o : Option PV) : Sl.back (sl o) (sl o) = sl o := by cases o <;> rfl
@[simp] theorem sl_ow (o : Option PV) : Sl.isOw (sl o) = false := by cases o <;> rfl
@[simp] theorem sl_clean (o : Option PV) : clean (sl o) = sl o := by cases o <;> rfl
/-! ### texts as lists of signs -/
def st (l : List Nat) : Str := ⟨l.toArray⟩
theorem st_cps (l : List Nat) : (st l).cps.toList = l := rfl
@[simp] theorem st_len (l : List Nat) : (st l).length = l.length := by show (l.toArray).size = _; simp
@[simp] theorem st_app (l m : List Nat) : st l ++ st m = st (l ++ m) := by show (⟨l.toArray ++ m.toArray⟩ : Str) = _; simp [st]
@[simp] theorem st_inj {l m : List Nat} : (st l = st m) = (l = m) := by
  refine propext ⟨fun h => ?_, fun h => by rw [h]⟩
  have := congrArg (fun s : Str => s.cps.toList) h
  simpa [st] using this
theorem st_of (x : Str) : x = st x.cps.toList := by obtain ⟨a⟩ := x; simp [st]
@[simp] theorem st_signs (l : List Nat) : signs (st l) = l.map fun c => .str (st [c]) := by simp [signs, st]
@[simp] theorem ap_slS (l : List Nat) (lo hi : Option Int) : gSl (.str (st l)) lo hi = if l.length ≤ sizeLine then some (.str (st (cutP l lo hi))) else none := by
  have e : cutS (st l) lo hi = st (cutP l lo hi) := by
    unfold cutS cutP
    rw [st_len]
    rfl
  show (if (st l).length ≤ sizeLine then some (PV.str (cutS (st l) lo hi)) else none) = _
  rw [st_len, e]
@[simp] theorem ap_slL (l : List PV) (lo hi : Option Int) : gSl (.lst l) lo hi = some (.lst (cutP l lo hi)) := rfl
@[simp] theorem ap_slLL (l : List PV) (lo hi : Option Int) : gSlL (.lst l) lo hi = some (.lst (cutP l lo hi)) := rfl
@[simp] theorem ap_ixSt (l : List Nat) (i : Int) : gIx (.str (st l)) (.int i) = if l.length ≤ sizeLine then (L2.atI l i).map fun c => .str (st [c]) else none := by
  rw [ap_ixS, st_len, st_cps]; rfl
theorem cutP_nat {α : Type} (l : List α) (a b : Nat) : cutP l (some (a : Int)) (some (b : Int)) = (l.take b).drop a := by
  unfold cutP
  rw [HT.sIx_nat, HT.sIx_nat, List.drop_take]
  by_cases h : a ≤ l.length
  · rw [Nat.min_eq_left h]
    by_cases h2 : b ≤ l.length
    · rw [Nat.min_eq_left h2]
    · have h3 : min b l.length = l.length := Nat.min_eq_right (by omega)
      rw [h3, List.take_of_length_le (by simp), List.take_of_length_le (by simp; omega)]
  · have h3 : min a l.length = l.length := Nat.min_eq_right (by omega)
    have h4 : l.drop a = [] := List.drop_of_length_le (by omega)
    rw [h3, h4, List.drop_of_length_le (Nat.le_refl _)]
    simp
theorem cutP_lo {α : Type} (l : List α) (a : Nat) : cutP l (some (a : Int)) none = l.drop a := by
  unfold cutP
  rw [HT.sIx_nat, HT.sIx_none]
  by_cases h : a ≤ l.length
  · rw [Nat.min_eq_left h, List.take_of_length_le (by simp)]
  · have h3 : min a l.length = l.length := Nat.min_eq_right (by omega)
    rw [h3, List.drop_of_length_le (Nat.le_refl _), List.drop_of_length_le (by omega)]; simp
theorem cutP_hi {α : Type} (l : List α) (b : Nat) : cutP l none (some (b : Int)) = l.take b := by
  unfold cutP
  rw [HT.sIx_nat, HT.sIx_none, List.drop_zero, Nat.sub_zero]
  by_cases h : b ≤ l.length
  · rw [Nat.min_eq_left h]
  · have h3 : min b l.length = l.length := Nat.min_eq_right (by omega)
    rw [h3, List.take_of_length_le (Nat.le_refl _), List.take_of_length_le (by omega)]
@[simp] theorem ap_oSome {da : Den} {ρ : Env} : oSome da ρ = (da ρ).bind fun p ρ1 => opt (p.int?.map some) ρ1 := id rfl
@[simp] theorem ap_int? (i : Int) : PV.int? (.int i) = some i := rfl
@[simp] theorem ap_dSl {g : PV → Option Int → Option Int → Option PV} {da : Den} {dl dh : DenO} {ρ : Env} : dSl g da dl dh ρ = (da ρ).bind fun p ρ1 => (dl ρ1).bind fun l ρ2 => (dh ρ2).bind fun h ρ3 => opt (g p l h) ρ3 := id rfl
@[simp] theorem ap_dSlv {g : PV → Option Int → Option Int → Option PV} {i : Nat} {dl dh : DenO} {ρ : Env} : dSlv g i dl dh ρ = match slot ρ i with
  | none => .bad
  | some _ => (dl ρ).bind fun l ρ2 => (dh ρ2).bind fun h ρ3 => match slot ρ3 i with
    | none => .bad
    | some p => opt (g p l h) ρ3 := id rfl
@[simp] theorem ap_dJoin {da db : Den} {ρ : Env} : dJoin da db ρ = (da ρ).bind fun p ρ1 => match p with
  | .str _ => (db ρ1).bind fun q ρ2 => opt (gJoin p q) ρ2
  | _ => .bad := id rfl
/-! ### equal texts, shaped values -/
def asc (l : List Nat) : Prop := ∀ c ∈ l, c < 128
theorem strOk_st {l : List Nat} (h : asc l) : PyData.strOk (st l) = true := by
  show (l.toArray).all (· < 0x110000) = true
  simp only [List.all_toArray, List.all_eq_true, decide_eq_true_eq]
  intro c hc
  have := h c hc
  omega
theorem shaped_st {l : List Nat} (h : asc l) : SeqAt.shaped (PV.toD (.str (st l))) = true := by
  have e : PyData.canLay0 (.str (st l)) = true := by simp only [PyData.canLay0]; exact strOk_st h
  simp only [SeqAt.shaped, PV.toD, e, Bool.true_and, decide_eq_true_eq, PyData.depth]
  exact Nat.zero_le _
theorem eqv_str (x y : Str) : PyData.eqv (.str x) (.str y) = decide (x = y) := by
  simp only [PyData.eqv]
  by_cases h : x = y <;> simp [h]
theorem ap_eqS {l m : List Nat} (h : asc l) (h' : asc m) : gEq (.str (st l)) (.str (st m)) = some (.bl (decide (l = m))) := by
  unfold gEq pvEq
  rw [shaped_st h, shaped_st h']
  simp only [PV.toD, eqv_str, st_inj, Bool.and_self, if_true]
theorem canAll_iff : ∀ {ps : List PV}, PyData.canLayAll0 (toDs ps) = true ↔ ∀ p ∈ ps, p.toD.canLay0 = true
  | [] => by simp [toDs, PyData.canLayAll0]
  | p :: ps => by simp [toDs, PyData.canLayAll0, canAll_iff (ps := ps)]
theorem depthAll_le {n : Nat} : ∀ {ps : List PV}, (∀ p ∈ ps, p.toD.depth ≤ n) → PyData.depthAll (toDs ps) ≤ n
  | [], _ => by simp [toDs, PyData.depthAll]
  | p :: ps, h => by
    simp only [toDs, PyData.depthAll]
    exact Nat.max_le.mpr ⟨h p List.mem_cons_self, depthAll_le fun q hq => h q (List.mem_cons_of_mem _ hq)⟩
theorem plain_lay : ∀ (n : Nat) (p : PV), okD n p = true → (plainP p).toD.canLay0 = true ∧ (plainP p).toD.depth ≤ n
  | 0, p, h => by simp [okD] at h
  | n + 1, p, h => by
    have ih := plain_lay n
    have seq : ∀ (b : Bool) (ps : List PV), okDs n ps = true → (PV.lst (.bl b :: plainPs ps)).toD.canLay0 = true ∧ (PV.lst (.bl b :: plainPs ps)).toD.depth ≤ n + 1 := by
      intro b ps h3
      have h3 := okDs_iff.mp h3
      refine ⟨?_, ?_⟩
      · simp only [PV.toD, PyData.canLay0]
        rw [canAll_iff]
        intro q hq
        rcases List.mem_cons.mp hq with e | hq
        · subst e; rfl
        · rw [plainPs_map] at hq
          obtain ⟨p, hp, e⟩ := List.mem_map.mp hq
          subst e
          exact (ih p (h3 p hp)).1
      · simp only [PV.toD, PyData.depth]
        refine Nat.succ_le_succ (depthAll_le ?_)
        intro q hq
        rcases List.mem_cons.mp hq with e | hq
        · subst e; simp [PV.toD, PyData.depth]
        · rw [plainPs_map] at hq
          obtain ⟨p, hp, e⟩ := List.mem_map.mp hq
          subst e
          exact (ih p (h3 p hp)).2
    cases p with
    | lst ps =>
      have h : ps.length ≤ 100000 ∧ okDs n ps = true := by simpa [okD] using h
      exact seq true ps h.2
    | tup ps =>
      have h : ps.length ≤ 100000 ∧ okDs n ps = true := by simpa [okD] using h
      exact seq false ps h.2
    | ktup ps =>
      have h : ps.length ≤ 100000 ∧ okDs n ps = true := by simpa [okD] using h
      exact seq false ps h.2
    | non => exact ⟨by decide +kernel, by simp [plainP, PV.toD, PyData.depth]⟩
    | bl b => cases b <;> exact ⟨by decide +kernel, by simp [plainP, PV.toD, PyData.depth]⟩
    | int i => exact ⟨by simp [plainP, PV.toD, toDs, PyData.canLay0, PyData.canLayAll0], by simp [plainP, PV.toD, toDs, PyData.depth, PyData.depthAll]⟩
    | str x =>
      have h : PyData.canLay0 (.str x) = true := by simpa [okD] using h
      exact ⟨by simp [plainP, PV.toD, toDs, PyData.canLay0, PyData.canLayAll0]; simpa [PyData.canLay0] using h, by simp [plainP, PV.toD, toDs, PyData.depth, PyData.depthAll]⟩
    | klst ps => simp [okD] at h
    | dic t ks vs => simp [okD] at h
    | fn a => simp [okD] at h
theorem plain_ne {n : Nat} {p : PV} (h : okD n p = true) (hn : n ≤ 64) : gNe (plainP p) (plainP p) = some (.bl false) := by
  obtain ⟨h1, h2⟩ := plain_lay n p h
  have h3 : SeqAt.shaped (plainP p).toD = true := by
    simp only [SeqAt.shaped, h1, Bool.true_and, decide_eq_true_eq]
    omega
  unfold gNe pvEq
  rw [h3, SeqAt.eqv_refl _ h1]
  rfl
theorem ap_plain {n : Nat} {p : PV} (h : okD n p = true) : F_plain_ n [p] = .ok (plainP p) .non := F_plain_eq n p h
end PL

set_option Elab.async false
set_option linter.all false
set_option maxRecDepth 100000
set_option maxHeartbeats 4000000
namespace PL
open PySem PySem.Spec L2
set_option autoImplicit false
section
variable {X : Cx} {W : WX} {fr : Bool} {k : Nat} {pos p p2 p3 : Pos} {e a b : Expr} {es : List Expr} {da db : Den} {dl : DenL} {x : Str} {K : PySem.W.Frag} {mg : Str → Option Value}
/-! ### whole division by greater numbers -/
def gFdivW : PV → PV → Option PV
  | .int i, .int j => if decide (0 < j) && decide (j.natAbs.log2 < 9000) then some (.int (i / j)) else none
  | _, _ => none
theorem v2_fdivW : V2 K (rI CDivW fun i j => .int (i / j)) gFdivW := by
  intro S H x y p q z Q s rx ry e k
  unfold gFdivW at e
  split at e
  · split at e
    · rename_i hz
      cases rx; cases ry; cases e
      simp only [Bool.and_eq_true, decide_eq_true_eq] at hz
      exact ⟨_, _, rfl, rfl, hz, k _ S H (Step.refl s) (.int _)⟩
    · cases e
  · cases e
abbrev dFdivW := d2 gFdivW
theorem de_fdivW (ha : DE X W a da) (hb : DE X W b db) : DE X W (.BinOp a .FloorDiv b pos) (dFdivW da db) := de_op op_fdivW v2_fdivW ha hb
/-! ### math.gcd -/
def gGcd : List PV → Option PV
  | [.int i, .int j] => some (.int ((Nat.gcd i.natAbs j.natAbs : Nat) : Int))
  | _ => none
theorem vn_gcd : VN K rGcd gGcd := by
  intro S H xs ps z Q s rx e k
  unfold gGcd at e
  split at e
  · cases e
    cases rx with
    | cons r1 r2 =>
      cases r2 with
      | cons r3 r4 =>
        cases r4; cases r1; cases r3
        exact ⟨_, _, rfl, k _ S H (Step.refl s) (.int _)⟩
  · cases e
theorem de_gcd (hm : X.mg x = some (.builtin "math.gcd")) (ha : DA X W (e :: es) dl) (hg : Gl X x := by rfl) (hdb : (x == ("__debug__" : Str)) = false := by decide)
    (he : starEach (e :: es) X.env = (false, eval e X.env) :: starEach es X.env := by rfl) (hpl : (backTo pos (starEach es X.env)).any (·.1) = false := by rfl) : DE X W (.Call (.Name x p) (e :: es) [] pos) (dN gGcd dl) :=
  DE.of (pe_callBfun cr_gcd hg hm ha hdb he hpl) (eo_n canon_ok vn_gcd)
/-! ### list(range(..)) -/
theorem rep_rg {S : Hp} (i j : Int) : RepL K S (rangeP i (j - i).toNat) (rgV i j) := by
  unfold rangeP rgV
  generalize (List.range (j - i).toNat) = l
  induction l with
  | nil => exact .nil
  | cons c l ih => exact .cons (.int _) ih
def rgOkB (i j : Int) : Bool := decide (-(2 ^ 62) ≤ i) && decide (i < 2 ^ 62) && (decide (-(2 ^ 62) ≤ j) && decide (j < 2 ^ 62)) && decide ((j - i).toNat ≤ 2 ^ 24)
theorem rgOkB_ok {i j : Int} (h : rgOkB i j = true) : RgOk i j := by
  unfold rgOkB at h
  simp only [Bool.and_eq_true, decide_eq_true_eq] at h
  obtain ⟨⟨⟨h1, h2⟩, h3, h4⟩, h5⟩ := h
  exact ⟨h1, h2, h3, h4, h5⟩
def lrg (i j : Int) (ρ : Env) : Rs PV := if rgOkB i j = true then .ok (.lst (rangeP i (j - i).toNat)) ρ else .bad
def dLR1 (da : Den) : Den := fun ρ => (da ρ).bind fun p ρ1 => match p with
  | .int j => lrg 0 j ρ1
  | _ => .bad
def dLR2 (da db : Den) : Den := fun ρ => (da ρ).bind fun p ρ1 => (db ρ1).bind fun q ρ2 => match p, q with
  | .int i, .int j => lrg i j ρ2
  | _, _ => .bad
theorem df_lr1 (c : Ctx X W k) (B : Bi X.mg) (ha : DE X W a da) (hg : Gl X "list" := by rfl) (hg2 : Gl X "range" := by rfl) (na : starEach [a] X.env = (false, eval a X.env) :: starEach [] X.env := by rfl) (nb : starEach [.Call (.Name "range" p2) [a] [] p3] X.env = (false, eval (.Call (.Name "range" p2) [a] [] p3) X.env) :: starEach [] X.env := by rfl) :
    DF X W (.Call (.Name "list" p) [.Call (.Name "range" p2) [a] [] p3] [] pos) (dLR1 da) :=
  DF.of (pe_listRg c.calm hg B.list (prg_1 hg2 B.range ha na) nb) fun H₀ S₀ M S σ H ρ Q ab hp =>
    canon_ok.bind (Rl := rV X.K) (Rl' := rF X.K) ab hp fun p ρ1 v S1 H1 _ a1 _ r1 hp => by
      cases p with
      | int j =>
        cases r1
        have hp : Post X.K X.mg W (rF X.K) H₀ S₀ M σ (lrg 0 j ρ1) Q := hp
        unfold lrg at hp
        split at hp
        · rename_i hz
          exact ⟨j, rfl, rgOkB_ok hz, fun c n => hp _ S1 _ (a1.fresh n (p := .lst _) (o := .lst _) (rep_rg 0 j)).1 (a1.fresh n (p := .lst _) (o := .lst _) (rep_rg 0 j)).2⟩
        · exact hp.elim
      | _ => exact hp.elim
theorem df_lr2 (c : Ctx X W k) (B : Bi X.mg) (ha : DE X W a da) (hb : DE X W b db) (hg : Gl X "list" := by rfl) (hg2 : Gl X "range" := by rfl) (na : starEach [a, b] X.env = (false, eval a X.env) :: starEach [b] X.env := by rfl) (nb : starEach [b] X.env = (false, eval b X.env) :: starEach [] X.env := by rfl)
    (hpl : (backTo p3 (starEach [b] X.env)).any (·.1) = false := by rfl) (nc : starEach [.Call (.Name "range" p2) [a, b] [] p3] X.env = (false, eval (.Call (.Name "range" p2) [a, b] [] p3) X.env) :: starEach [] X.env := by rfl) :
    DF X W (.Call (.Name "list" p) [.Call (.Name "range" p2) [a, b] [] p3] [] pos) (dLR2 da db) :=
  DF.of (pe_listRg c.calm hg B.list (prg_2 hg2 B.range ha hb na nb hpl) nc) fun H₀ S₀ M S σ H ρ Q ab hp =>
    canon_ok.bind (Rl := rV X.K) (Rl' := rF X.K) ab hp fun p ρ1 v S1 H1 _ a1 _ r1 hp => canon_ok.bind (Rl := rV X.K) (Rl' := rF X.K) a1 hp fun q ρ2 u S2 H2 _ a2 _ r2 hp => by
      cases p with
      | int i =>
        cases q with
        | int j =>
          cases r1; cases r2
          have hp : Post X.K X.mg W (rF X.K) H₀ S₀ M σ (lrg i j ρ2) Q := hp
          unfold lrg at hp
          split at hp
          · rename_i hz
            exact ⟨i, j, rfl, rfl, rgOkB_ok hz, fun c n => hp _ S2 _ (a2.fresh n (p := .lst _) (o := .lst _) (rep_rg i j)).1 (a2.fresh n (p := .lst _) (o := .lst _) (rep_rg i j)).2⟩
          · exact hp.elim
        | _ => exact hp.elim
      | _ => exact hp.elim
/-! ### x[::-1] of a list -/
def dRevL (da : Den) : Den := fun ρ => (da ρ).bind fun p ρ1 => match p with
  | .lst ps => .ok (.lst ps.reverse) ρ1
  | .klst ps => .ok (.lst ps.reverse) ρ1
  | _ => .bad
theorem df_revL {kk : Nat} {p1 : Pos} (ha : DE X W e da) : DF X W (.Subscript e (.Slice none none (some (.UnaryOp .USub (.Constant (.int 1) kk p1) p2)) p3) pos) (dRevL da) :=
  DF.of (pe_revL ha) fun H₀ S₀ M S σ H ρ Q ab hp => canon_ok.bind (Rl := rV X.K) (Rl' := rF X.K) ab hp fun p ρ1 v S1 H1 _ a1 _ r1 hp => by
    cases p with
    | lst ps =>
      cases r1 with
      | lst h1 h2 => exact ⟨_, _, rfl, .inl (.inl (a1.sub _ _ h1)), fun c n => hp _ S1 _ (a1.fresh n (p := .lst _) (o := .lst _) h2.reverse).1 (a1.fresh n (p := .lst _) (o := .lst _) h2.reverse).2⟩
    | klst ps =>
      cases r1 with
      | klst h1 h2 => exact ⟨_, _, rfl, Same.lstK a1.sub h1, fun c n => hp _ S1 _ (a1.fresh n (p := .lst _) (o := .lst _) h2.reverse).1 (a1.fresh n (p := .lst _) (o := .lst _) h2.reverse).2⟩
    | _ => exact hp.elim
/-! ### tuple(x) -/
def gTupOf : List PV → Option PV
  | [.lst ps] => some (.tup ps)
  | [.tup ps] => some (.tup ps)
  | [.ktup ps] => some (.ktup ps)
  | _ => none
theorem vn_tupOf : VN K (fun xs H Q => ∃ p ys, xs = [.ref p] ∧ ((SqL K H p ys ∧ ∀ l, H l = none → Q (.ref l) (upd H l (.tup ys))) ∨ (SqT K H p ys ∧ Q (.ref p) H))) gTupOf := by
  intro S H xs ps z Q s rx e k
  unfold gTupOf at e
  split at e
  · cases rx with
    | cons r1 r2 =>
      cases r2; cases e
      cases r1 with
      | lst h1 h2 => exact ⟨_, _, rfl, .inl ⟨.inl (.inl (s _ _ h1)), fun l n => k _ (upd S l (.tup _)) _ (Step.new1 s n) (.tup upd_same (h2.up (same_upd (Same.free s n))))⟩⟩
  · cases rx with
    | cons r1 r2 =>
      cases r2; cases e
      cases r1 with
      | tup h1 h2 => exact ⟨_, _, rfl, .inr ⟨.inl (.inl (s _ _ h1)), k _ S H (Step.refl s) (.tup h1 h2)⟩⟩
  · cases rx with
    | cons r1 r2 =>
      cases r2; cases e
      cases r1 with
      | ktup h1 h2 => exact ⟨_, _, rfl, .inr ⟨Same.tupK s h1, k _ S H (Step.refl s) (.ktup h1 h2)⟩⟩
  · cases e
theorem de_tupOf (B : Bi X.mg) (ha : DA X W (e :: es) dl) (hg : Gl X "tuple" := by rfl) (he : starEach (e :: es) X.env = (false, eval e X.env) :: starEach es X.env := by rfl) (hpl : (backTo pos (starEach es X.env)).any (·.1) = false := by rfl) :
    DE X W (.Call (.Name "tuple" p) (e :: es) [] pos) (dN gTupOf dl) := DE.of (pe_callTy call_tuple_of hg B.tuple (by decide +kernel) ha (by decide) (by decide) he hpl) (eo_n canon_ok vn_tupOf)
/-! ### sorted(whole numbers) -/
def insI (n : Int) : List Int → List Int
  | [] => [n]
  | m :: l => if n ≤ m then n :: m :: l else m :: insI n l
def sortI : List Int → List Int
  | [] => []
  | n :: l => insI n (sortI l)
theorem insI_perm (n : Int) : ∀ l, (insI n l).Perm (n :: l)
  | [] => .refl _
  | m :: l => by
    unfold insI
    split
    · exact .refl _
    · exact ((insI_perm n l).cons m).trans (.swap n m l)
theorem sortI_perm : ∀ l, (sortI l).Perm l
  | [] => .refl _
  | n :: l => (insI_perm n (sortI l)).trans ((sortI_perm l).cons n)
theorem insI_le {n : Int} : ∀ {l : List Int}, l.Pairwise (· ≤ ·) → (insI n l).Pairwise (· ≤ ·)
  | [], _ => by simp [insI]
  | m :: l, h => by
    have h1 := List.pairwise_cons.mp h
    unfold insI
    split
    · rename_i hz
      refine List.pairwise_cons.mpr ⟨fun a ha => ?_, h⟩
      rcases List.mem_cons.mp ha with e | e
      · rw [e]; exact hz
      · exact Int.le_trans hz (h1.1 a e)
    · rename_i hz
      refine List.pairwise_cons.mpr ⟨fun a ha => ?_, insI_le h1.2⟩
      rcases List.mem_cons.mp ((insI_perm n l).mem_iff.mp ha) with e | e
      · rw [e]; omega
      · exact h1.1 a e
theorem sortI_le : ∀ l : List Int, (sortI l).Pairwise (· ≤ ·)
  | [] => .nil
  | n :: l => insI_le (sortI_le l)
theorem sort_uniq {l m : List Int} (h : l.Perm m) (hl : l.Pairwise (· ≤ ·)) (hm : m.Pairwise (· ≤ ·)) : l = m :=
  h.eq_of_pairwise (fun a b _ _ h1 h2 => Int.le_antisymm h1 h2) hl hm
theorem ints_rep {S : Hp} : ∀ {ps : List PV} {vs : List V} {ns : List Int}, ints? ps = some ns → RepL K S ps vs → vs = ns.map V.int
  | [], _, _, e, h => by cases h; cases e; rfl
  | p :: ps, _, ns, e, h => by
    cases h with
    | cons h1 h2 =>
      cases p with
      | int i =>
        have e : (ints? ps).map (i :: ·) = some ns := e
        cases e1 : ints? ps with
        | none => rw [e1] at e; cases e
        | some ms =>
          rw [e1] at e; cases e
          cases h1
          rw [ints_rep e1 h2]; rfl
      | _ => cases e
def gSorted : List PV → Option PV
  | [.lst ps] => (ints? ps).map fun ns => .lst ((sortI ns).map .int)
  | _ => none
theorem vn_sorted : VNF K (rSortedI K) gSorted := by
  intro S H xs ps z Q s rx e k
  unfold gSorted at e
  split at e
  · rename_i ps
    cases rx with
    | cons r1 r2 =>
      cases r2
      cases r1 with
      | lst h1 h2 =>
        cases e1 : ints? ps with
        | none => rw [e1] at e; cases e
        | some ns =>
          rw [e1] at e; cases e
          have e2 := ints_rep e1 h2
          subst e2
          refine ⟨_, ns, rfl, .inl (.inl (s _ _ h1)), fun ns' q hp hs n => ?_⟩
          have e3 := sort_uniq (hp.trans (sortI_perm ns).symm) hs (sortI_le ns)
          subst e3
          exact k q (.lst _) n (repInts _)
  · cases e
theorem df_sorted (B : Bi X.mg) (ha : DA X W (e :: es) dl) (hg : Gl X "sorted" := by rfl) (he : starEach (e :: es) X.env = (false, eval e X.env) :: starEach es X.env := by rfl) (hpl : (backTo pos (starEach es X.env)).any (·.1) = false := by rfl) :
    DF X W (.Call (.Name "sorted" p) (e :: es) [] pos) (dN gSorted dl) := DF.of (pe_callB cr_sortedI hg B.sorted (by decide +kernel) ha (by decide) (by decide) he hpl) (fo_n canon_ok vn_sorted)
end
end PL

set_option Elab.async false
set_option linter.all false
set_option maxRecDepth 100000
set_option maxHeartbeats 4000000
namespace PL
open PySem PySem.Spec L2
set_option autoImplicit false
section
variable {X : Cx} {W : WX} {K : PySem.W.Frag}
/-! ### x in a tuple of flat values -/
def flat? : PV → Option V
  | .non => some .non
  | .bl b => some (.bl b)
  | .int i => some (.int i)
  | .str x => some (.str x)
  | _ => none
def flats? : List PV → Option (List V)
  | [] => some []
  | p :: ps => (flat? p).bind fun x => (flats? ps).map fun xs => x :: xs
theorem flat_rep {S : Hp} {p : PV} {v x : V} (e : flat? p = some x) (r : Rep K S p v) : v = x ∧ flatV x = true := by
  cases p <;> first | (cases e; cases r; exact ⟨rfl, rfl⟩) | cases e
theorem flats_rep {S : Hp} : ∀ {ps : List PV} {vs xs : List V}, flats? ps = some xs → RepL K S ps vs → vs = xs ∧ xs.all flatV = true
  | [], _, _, e, r => by cases r; cases e; exact ⟨rfl, rfl⟩
  | p :: ps, _, _, e, r => by
    cases r with
    | cons r1 r2 =>
      have e : ((flat? p).bind fun x => (flats? ps).map fun xs => x :: xs) = some _ := e
      cases e1 : flat? p with
      | none => rw [e1] at e; cases e
      | some x =>
        cases e2 : flats? ps with
        | none => rw [e1, e2] at e; cases e
        | some xs =>
          rw [e1, e2] at e
          cases e
          obtain ⟨h1, h2⟩ := flat_rep e1 r1
          obtain ⟨h3, h4⟩ := flats_rep e2 r2
          subst h1 h3
          exact ⟨rfl, by rw [List.all_cons, h2, h4]; rfl⟩
def gInT (neg : Bool) : PV → PV → Option PV
  | p, .tup ps => (flat? p).bind fun x => (flats? ps).map fun xs => .bl (if neg then !inV x xs else inV x xs)
  | p, .ktup ps => (flat? p).bind fun x => (flats? ps).map fun xs => .bl (if neg then !inV x xs else inV x xs)
  | _, _ => none
theorem v2_inT {neg : Bool} : V2 K (rIn K neg) (gInT neg) := by
  intro S H x y p q z Q s rx ry e k
  have key : ∀ ps : List PV, ∀ vs : List V, RepL K S ps vs → ((flat? p).bind fun x => (flats? ps).map fun xs => PV.bl (if neg then !inV x xs else inV x xs)) = some z → flatV x = true ∧ vs.all flatV = true ∧ z = .bl (if neg then !inV x vs else inV x vs) := by
    intro ps vs r e
    cases e1 : flat? p with
    | none => rw [e1] at e; cases e
    | some x' =>
      cases e2 : flats? ps with
      | none => rw [e1, e2] at e; cases e
      | some xs =>
        rw [e1, e2] at e
        cases e
        obtain ⟨h1, h2⟩ := flat_rep e1 rx
        obtain ⟨h3, h4⟩ := flats_rep e2 r
        subst h1 h3
        exact ⟨h2, h4, rfl⟩
  cases q with
  | tup ps =>
    cases ry with
    | tup h1 h2 =>
      obtain ⟨g1, g2, rfl⟩ := key ps _ h2 e
      exact ⟨_, _, rfl, .inr (.inl (.inl (s _ _ h1))), g1, g2, k _ S H (Step.refl s) (.bl _)⟩
  | ktup ps =>
    cases ry with
    | ktup h1 h2 =>
      obtain ⟨g1, g2, rfl⟩ := key ps _ h2 e
      exact ⟨_, _, rfl, .inr (Same.tupK s h1), g1, g2, k _ S H (Step.refl s) (.bl _)⟩
  | _ => cases e
theorem gInT_sc {neg : Bool} : ∀ p q z, gInT neg p q = some z → z.sc = true := by
  intro p q z e
  have key : ∀ ps : List PV, ((flat? p).bind fun x => (flats? ps).map fun xs => PV.bl (if neg then !inV x xs else inV x xs)) = some z → z.sc = true := by
    intro ps e
    cases e1 : flat? p with
    | none => rw [e1] at e; cases e
    | some x' =>
      cases e2 : flats? ps with
      | none => rw [e1, e2] at e; cases e
      | some xs => rw [e1, e2] at e; cases e; rfl
  cases q with
  | tup ps => exact key ps e
  | ktup ps => exact key ps e
  | _ => cases e
theorem cr_inT : CmpR X .In (rIn X.K false) (gInT false) := ⟨op_in_seq, v2_inT, gInT_sc⟩
theorem cr_notInT : CmpR X .NotIn (rIn X.K true) (gInT true) := ⟨op_notIn_seq, v2_inT, gInT_sc⟩
/-! ### tuples of the module -/
def fltB : PV → Value → Bool
  | .non, .none => true
  | .bl b, .bool c => b == c
  | .int i, .int j _ => i == j
  | .str x, .str y _ => x == y
  | _, _ => false
def fltsB : List PV → List Value → Bool
  | [], [] => true
  | p :: ps, v :: vs => fltB p v && fltsB ps vs
  | _, _ => false
theorem fltB_ok {S : Hp} {p : PV} {u : Value} (h : fltB p u = true) : ∃ v, RelV v u ∧ Rep K S p v := by
  unfold fltB at h
  split at h
  · exact ⟨.non, rfl, .non⟩
  · rw [beq_iff_eq] at h; subst h; exact ⟨.bl _, rfl, .bl _⟩
  · rw [beq_iff_eq] at h; subst h; exact ⟨.int _, ⟨_, rfl⟩, .int _⟩
  · rw [beq_iff_eq] at h; subst h; exact ⟨.str _, ⟨_, rfl⟩, .str _⟩
  · cases h
theorem fltsB_ok {S : Hp} : ∀ {ps : List PV} {us : List Value}, fltsB ps us = true → ∃ vs, Vals vs us ∧ RepL K S ps vs
  | [], [], _ => ⟨[], .nil, .nil⟩
  | [], _ :: _, h => by cases h
  | _ :: _, [], h => by cases h
  | p :: ps, u :: us, h => by
    have h : fltB p u = true ∧ fltsB ps us = true := (Bool.and_eq_true _ _).mp h
    obtain ⟨v, h1, h2⟩ := fltB_ok (K := K) (S := S) h.1
    obtain ⟨vs, h3, h4⟩ := fltsB_ok h.2
    exact ⟨v :: vs, .cons h1 h3, .cons h2 h4⟩
def ktupB (K : PySem.W.Frag) (x : Str) (ps : List PV) : Bool := He.eqO (PySem.W.nsIn K mainGlobals x) (some (some (.ref (He.ga K x)))) && (match K.lookup (He.ga K x) with
  | some ⟨.type c, _, .seq its _, _⟩ => c == "tuple" && (decide (its.size ≤ sizeLine) && fltsB ps its.toList)
  | _ => false)
theorem ktupB_ok {ps : List PV} {x : Str} {h : Heap} {mg : Str → Option Value} (X : K.In h) (G : h.Ns mainGlobals mg) (hb : ktupB K x ps = true) : mg x = some (.ref (He.ga K x)) ∧ ∀ S, Rep K S (.ktup ps) (.ref (He.ga K x)) := by
  obtain ⟨h1, h2⟩ := (Bool.and_eq_true _ _).mp hb
  refine ⟨PySem.W.mg_of X G (He.eqO_ok h1), fun S => ?_⟩
  split at h2
  · rename_i c dd its n sl e
    simp only [Bool.and_eq_true, decide_eq_true_eq, beq_iff_eq] at h2
    obtain ⟨hc, hz, hf⟩ := h2
    subst hc
    obtain ⟨vs, h3, h4⟩ := fltsB_ok (K := K) (S := S) hf
    exact .ktup (.inr ⟨_, its, n, e, rfl, rfl, hz, h3⟩) h4
  · cases h2
/-- a module's name of a built-in function -/
def bltB (K : PySem.W.Frag) (x : Str) (id : String) : Bool := He.eqO (PySem.W.nsIn K mainGlobals x) (some (some (.builtin id)))
theorem bltB_ok {x : Str} {id : String} {h : Heap} {mg : Str → Option Value} (X : K.In h) (G : h.Ns mainGlobals mg) (hb : bltB K x id = true) : mg x = some (.builtin id) := PySem.W.mg_of X G (He.eqO_ok hb)
end
end PL

set_option Elab.async false
set_option linter.all false
set_option maxRecDepth 100000
set_option maxHeartbeats 4000000
namespace PL
open PySem PySem.Spec L2
set_option autoImplicit false
/-- a measure: the number in a slot -/
def muI (i : Nat) (ρ : Env) : Nat := match (ρ[i]? : Option Sl) with
  | some (.sh (.int j)) => j.natAbs + 2
  | _ => 0
section
variable {X : Cx} {W : WX} {fr : Bool} {k : Nat} {pos : Pos} {a b : Expr} {dl : DenL} {x y : Str}
/-! ### a, b = e, f -/
def sPar (i j : Nat) (dl : DenL) : DenS := fun ρ => (dl ρ).bindS fun ps ρ1 => match ps with
  | [p, q] => .nx ((ρ1.set i (.sh p)).set j (.sh q))
  | _ => .bad
theorem ds_par {px py pt pt2 : Pos} {kt k2 : Nat} (c : Ctx X W k) (i j : Nat) (ha : DA X W [a, b] dl) (hij : i ≠ j := by decide) (hi : X.N[i]? = some x := by rfl) (hj : X.N[j]? = some y := by rfl) (hx : X.env.scope.names.lookup x = some .local := by rfl) (hy : X.env.scope.names.lookup y = some .local := by rfl)
    (hw : swappedStores [.Tuple [.Name x px, .Name y py] kt pt] (.Tuple [a, b] k2 pt2) X.env = pure (some [x, y]) := by rfl) (hs : swapsWithSole [.Tuple [.Name x px, .Name y py] kt pt] (.Tuple [a, b] k2 pt2) pos.line X.env = pure false := by rfl) :
    DS X W fr (.Assign [.Tuple [.Name x px, .Name y py] kt pt] (.Tuple [a, b] k2 pt2) pos) (sPar i j dl) :=
  DS.of (ps_par c.calm c.nd hi hj hij hx hy ha hw hs) fun H₀ S₀ M S σ H ρ D ab hp => XOk.bindS (Rl := rL X.K) canon_ok ab hp fun ps ρ1 vs S1 H1 _ a1 _ r1 hp => by
    have r1 : RepL X.K S1 ps vs := r1
    cases r1 with
    | nil => exact hp.elim
    | cons g1 r2 =>
      cases r2 with
      | nil => exact hp.elim
      | cons g2 r3 =>
        cases r3 with
        | nil => exact ⟨_, _, rfl, hp S1 _ H1 ((a1.setSh g1).setSh g2)⟩
        | cons g3 r4 => exact hp.elim
@[simp] theorem ap_sPar {i j : Nat} {ρ : Env} : sPar i j dl ρ = (dl ρ).bindS fun ps ρ1 => match ps with
  | [p, q] => .nx ((ρ1.set i (.sh p)).set j (.sh q))
  | _ => .bad := id rfl
@[simp] theorem ap_fdivW (i j : Int) : gFdivW (.int i) (.int j) = if decide (0 < j) && decide (j.natAbs.log2 < 9000) then some (.int (i / j)) else none := id rfl
@[simp] theorem ap_gcd (i j : Int) : gGcd [.int i, .int j] = some (.int ((Nat.gcd i.natAbs j.natAbs : Nat) : Int)) := id rfl
@[simp] theorem ap_dLR1 {da : Den} {ρ : Env} : dLR1 da ρ = (da ρ).bind fun p ρ1 => match p with
  | .int j => lrg 0 j ρ1
  | _ => .bad := id rfl
@[simp] theorem ap_dLR2 {da db : Den} {ρ : Env} : dLR2 da db ρ = (da ρ).bind fun p ρ1 => (db ρ1).bind fun q ρ2 => match p, q with
  | .int i, .int j => lrg i j ρ2
  | _, _ => .bad := id rfl
theorem lrg_ok {i j : Int} {ρ : Env} (h1 : -10000000 ≤ i) (h2 : i ≤ 10000000) (h3 : -10000000 ≤ j) (h4 : j ≤ 10000000) (h5 : j - i ≤ 10000000) : lrg i j ρ = .ok (.lst (rangeP i (j - i).toNat)) ρ := by
  unfold lrg
  rw [if_pos]
  unfold rgOkB
  simp only [Bool.and_eq_true, decide_eq_true_eq]
  omega
@[simp] theorem ap_dRevL {da : Den} {ρ : Env} : dRevL da ρ = (da ρ).bind fun p ρ1 => match p with
  | .lst ps => .ok (.lst ps.reverse) ρ1
  | .klst ps => .ok (.lst ps.reverse) ρ1
  | _ => .bad := id rfl
@[simp] theorem ap_tupOfL (ps : List PV) : gTupOf [.lst ps] = some (.tup ps) := id rfl
@[simp] theorem ap_tupOfT (ps : List PV) : gTupOf [.tup ps] = some (.tup ps) := id rfl
end
end PL

set_option Elab.async false
set_option linter.all false
set_option maxRecDepth 100000
set_option maxHeartbeats 4000000
namespace PL
open PySem PySem.Spec L2
open PyProof.Rows hiding St
set_option autoImplicit false
/-! ### set(xs) of a list of whole numbers -/
abbrev eSet (w : World) : Obj := { cls := .type "set", dict := none, data := .set #[] 0 (.fresh 0 0 (!w.params.followText "set-order")) }
section
variable {P : Program} {w : World} {A : Around} {E : Value → Shared → Prop} {s : Shared}
set_option maxHeartbeats 3200000 in
theorem set_of_ints {l : Addr} {vs : Array Value} (ns : List Int) {Q : Value → Shared → Prop} (hcalm : A.handled = none) (hL : s.heap.IsList l vs) (hI : IntsAre vs.toList ns) (hroom : ns.length + 1 < scanBound)
    (K : ∀ (h2 : Heap) (tk c : Nat), SetR w h2 s.heap.objs.size (fun j => decide (j ∈ ns)) c → c ≤ ns.length → (∀ b o, s.heap.get? b = some o → h2.get? b = some o) → Q (.ref s.heap.objs.size) { s with heap := h2, toks := tk }) :
    wpAny (model P w) A (call (.type "set") [.ref l]) Q E s := by
  have size_eq : vs.size = ns.length := by rw [← IntsAre.length hI, Array.length_toList]
  obtain ⟨c, tl, hmro⟩ := F.called_set.mro
  have f1 := F.called_set.made
  have f2 := F.called_set.sub
  refine wpAny_call (codeAny_of_tree ?_)
  show wpAny _ _ (callAny (.type "set") _) _ _ _
  refine wpAny_pure ⟨Code.quiet_builtin _ (by decide +kernel), codeAny_builtin F.entry_type_call ?_⟩
  rw [Around.under_plain (weight_type_call_type "set" [.ref l] []) rfl]
  have f3 := F.called_set.notType
  have f4 := F.called_set.canCreate
  have f5 := F.typeCall_set_1 (.ref l)
  repeat (any_goals (first | assumption | wp_step))
  refine codeAny_mono (code_set_led1 (.ref l) (E := E) (Q₁ := fun obj s₁ => obj = .ref s.heap.objs.size ∧ s₁ = { s with heap := s.heap.push (eSet w) }) ⟨rfl, rfl⟩) fun r s₁ hr => ?_
  cases r with
  | error e => exact hr
  | ok fl =>
    cases fl with
    | ret obj =>
      obtain ⟨rfl, rfl⟩ := hr
      have hS : (s.heap.push (eSet w)).get? s.heap.objs.size = some (eSet w) := Heap.get?_push_size _ rfl
      have hT : Shared.TypeIs { s with heap := s.heap.push (eSet w) } (.ref s.heap.objs.size) "set" := ⟨_, hS, rfl⟩
      have f6 := F.called_set.init.lookup
      have f7 := F.called_set.init.bind (.ref s.heap.objs.size)
      repeat (any_goals (first | assumption | wp_step))
      refine codeAny_mono (codeAny_call_builtin (R := wants (fun r s₂ => r = .none ∧ ∃ h2 tk c, s₂ = { s with heap := h2, toks := tk } ∧ SetR w h2 s.heap.objs.size (fun j => decide (j ∈ ns)) c ∧ c ≤ ns.length ∧
          (∀ b o, s.heap.get? b = some o → h2.get? b = some o)) E) F.called_set.init.plain F.entry_set_init (check_set_init_1 hT ?_)) fun r₂ s₂ hr₂ => ?_
      · obtain ⟨⟨ocls, odict, odata, oslots⟩, hol, hcl, nl, hdl⟩ := hL
        simp only at hcl hdl
        subst hcl; subst hdl
        have hol2 : (s.heap.push (eSet w)).get? l = some { cls := .type "list", dict := odict, data := .seq vs nl, slots := oslots } := Heap.get?_push_of_some _ hol
        have g1 := F.sub_list_set
        have g2 := F.sub_list_frozenset
        have g3 : (Value.type "list" == Value.type "dict") = false := by decide
        have hL2 : (s.heap.push (eSet w)).IsList l vs := ⟨_, hol2, rfl, nl, rfl⟩
        unfold Builtin.«set.__init__» noKeywords Builtin.Frozenset.updateFrom
        generalize hPI : pyIter = PI
        wp_walk
        subst hPI
        refine wpAny_pyIter_list hL2 ?_
        refine wpAny_bind (wpAny_runValue ?_)
        have lt0 : l < s.heap.objs.size := Heap.lt_size hol
        have calm3 : A.in1.in1.in1.handled = none := by simp [hcalm]
        have sz1 : (s.heap.push (eSet w)).objs.size = s.heap.objs.size + 1 := Heap.size_push ..
        have ne1 : l ≠ (s.heap.push (eSet w)).objs.size := by rw [sz1]; exact Nat.ne_of_lt (Nat.lt_succ_of_lt lt0)
        have ne2 : s.heap.objs.size ∉ [(s.heap.push (eSet w)).objs.size, l] := by
          rw [sz1]; simp only [List.mem_cons, List.mem_singleton, List.not_mem_nil, or_false, not_or]
          exact ⟨Nat.ne_of_lt (Nat.lt_succ_self _), Nat.ne_of_gt lt0⟩
        have val : ∀ (i : Nat) (v : Value), vs[i]? = some v → ∃ k t, ns[i]? = some k ∧ v = .int k t := fun i v hv => by
          have hi : i < ns.length := by rw [← size_eq]; exact (Array.getElem?_eq_some_iff.mp hv).1
          obtain ⟨t, e⟩ := IntsAre.int_at hI i v (by rw [Array.getElem?_toList]; exact hv)
          refine ⟨ns[i], t, List.getElem?_eq_getElem hi, ?_⟩
          rw [e, List.getD_eq_getElem?_getD, List.getElem?_eq_getElem hi] <;> rfl
        refine set_update_ints ((Walks.list calm3 _ l ne1 vs).toS) s.heap.objs.size ne2 ns size_eq hroom val (vs.size - 0) 0 _ (by omega) (Nat.zero_le _)
          ⟨⟨_, Heap.get?_push_size _ rfl, rfl, rfl⟩, (hL2.push _)⟩ ⟨0, Nat.le_refl 0, setR_new_at (Heap.get?_push_of_some _ hS)⟩ ?_
        intro s3 c3 hm hc3 hS3
        obtain ⟨h3, g3, d3, tk3, os3⟩ := s3
        have eg : g3 = s.gens := hm.gens
        have ed : d3 = s.drawn := hm.drawn
        have eo : os3 = s.os := hm.os
        subst eg; subst ed; subst eo
        show wpAny _ _ _ _ _ _
        refine wpAny_pure ?_
        show wpAny _ _ (ret Value.none) _ _ _
        rw [size_eq] at hc3
        refine wpAny_pure ⟨rfl, h3, tk3, c3, rfl, hS3, hc3, fun b o e => ?_⟩
        have hb0 : b < s.heap.objs.size := Heap.lt_size e
        refine hm.heap b o ?_ (Heap.get?_push_of_some _ (Heap.get?_push_of_some _ e))
        simp only [List.mem_cons, List.mem_singleton, List.not_mem_nil, or_false, not_or]
        exact ⟨Nat.ne_of_lt hb0, by rw [sz1]; exact Nat.ne_of_lt (Nat.lt_succ_of_lt hb0)⟩
      · cases r₂ with
        | error e => exact hr₂
        | ok fl₂ =>
          cases fl₂ with
          | ret r =>
            obtain ⟨rfl, h2, tk, c, rfl, a1, a2, a3⟩ := hr₂
            repeat (any_goals (first | assumption | wp_step))
            exact K _ _ _ a1 a2 a3
          | _ => exact hr₂.elim
    | _ => exact hr.elim
end
/-! ### sorted, every number once -/
def insU (n : Int) : List Int → List Int
  | [] => [n]
  | m :: l => if n < m then n :: m :: l else if n = m then m :: l else m :: insU n l
def sortU : List Int → List Int
  | [] => []
  | n :: l => insU n (sortU l)
theorem insU_mem {n k : Int} : ∀ {l : List Int}, k ∈ insU n l ↔ k = n ∨ k ∈ l
  | [] => by simp [insU]
  | m :: l => by
    unfold insU
    split
    · simp
    · split
      · rename_i h
        subst h
        simp
      · simp only [List.mem_cons, insU_mem (l := l)]
        constructor
        · rintro (h | h | h) <;> simp [h]
        · rintro (h | h | h) <;> simp [h]
theorem sortU_mem {k : Int} : ∀ {l : List Int}, k ∈ sortU l ↔ k ∈ l
  | [] => by simp [sortU]
  | n :: l => by simp [sortU, insU_mem, sortU_mem (l := l)]
theorem insU_lt {n : Int} : ∀ {l : List Int}, l.Pairwise (· < ·) → (insU n l).Pairwise (· < ·)
  | [], _ => by simp [insU]
  | m :: l, h => by
    have h1 := List.pairwise_cons.mp h
    unfold insU
    split
    · rename_i hz
      refine List.pairwise_cons.mpr ⟨fun a ha => ?_, h⟩
      rcases List.mem_cons.mp ha with e | e
      · rw [e]; exact hz
      · exact Int.lt_trans hz (h1.1 a e)
    · split
      · exact h
      · rename_i hz hn
        refine List.pairwise_cons.mpr ⟨fun a ha => ?_, insU_lt h1.2⟩
        rcases insU_mem.mp ha with e | e
        · rw [e]; omega
        · exact h1.1 a e
theorem sortU_lt : ∀ l : List Int, (sortU l).Pairwise (· < ·)
  | [] => .nil
  | n :: l => insU_lt (sortU_lt l)
theorem sortU_nodup (l : List Int) : (sortU l).Nodup := (sortU_lt l).imp fun h => by omega
theorem perm_of_nodup {l m : List Int} (hl : l.Nodup) (hm : m.Nodup) (h : ∀ k, k ∈ l ↔ k ∈ m) : l.Perm m := (List.perm_ext_iff_of_nodup hl hm).mpr h
theorem sortU_uniq {l m : List Int} (h : m.Pairwise (· < ·)) (e : ∀ k, k ∈ m ↔ k ∈ l) : m = sortU l :=
  (perm_of_nodup (h.imp fun h => by omega) (sortU_nodup l) fun k => (e k).trans sortU_mem.symm).eq_of_pairwise (fun a b _ _ h1 h2 => absurd h1 (by omega)) h (sortU_lt l)
theorem insU_len (n : Int) : ∀ l : List Int, (insU n l).length ≤ l.length + 1
  | [] => by simp [insU]
  | m :: l => by
    unfold insU
    split
    · simp
    · split
      · simp
      · have := insU_len n l
        simp; omega
theorem sortU_len : ∀ l : List Int, (sortU l).length ≤ l.length
  | [] => Nat.le_refl _
  | n :: l => by
    have h1 := insU_len n (sortU l)
    have h2 := sortU_len l
    simp only [sortU, List.length_cons]
    omega
section
variable {X : Cx} {W : WX} {fr : Bool} {k : Nat} {pos p p2 p3 : Pos} {e a b : Expr} {es : List Expr} {da db : Den} {x : Str}
def rSetI (K : PySem.W.Frag) (w : World) : List V → Hp → VK → Prop := fun xs H Q => ∃ (l : Addr) (ns : List Int), xs = [.ref l] ∧ SqL K H l (ns.map V.int) ∧ ns.length ≤ 4000 ∧
  ∀ p, H p = none → Q (.ref p) (upd H p (SetO w p (fun j => decide (j ∈ ns)) (sortU ns).length))
theorem cr_setI (hc : X.calm = true) : CallR X (.type "set") (rSetI X.K X.w) := by
  intro pins s σ H xs us Q I r h
  obtain ⟨l, ns, rfl, hq, hl, q⟩ := h
  rw [Vals.ref1 r]
  obtain ⟨its, rv, pl, hz⟩ := I.list hq
  refine set_of_ints ns (I.ok.hd hc) pl.isList (by simpa using rv.ints) (by unfold scanBound; omega) fun h2 tk c hS hc2 hk => ?_
  have ec : c = (sortU ns).length := by
    obtain ⟨o, es, ep, t, _, _, _, _, nd, mem, _, _, sz, _⟩ := hS
    have e1 := (perm_of_nodup nd (sortU_nodup ns) fun k => by rw [← mem k, sortU_mem]; simp).length_eq
    rw [List.length_map, Array.length_toList] at e1
    omega
  subst ec
  exact ⟨.ref _, upd H s.heap.objs.size (SetO X.w s.heap.objs.size (fun j => decide (j ∈ ns)) (sortU ns).length), I.laid (t' := tk) hk (Nat.le_refl _) (setO_new hS), rfl, q _ (I.hok.fresh (Nat.le_refl _))⟩
def rLenSet (w : World) : List V → Hp → VK → Prop := fun xs H Q => ∃ (a : Addr) (S : Int → Bool) (n : Nat), xs = [.ref a] ∧ H a = some (SetO w a S n) ∧ n ≤ 4000 ∧ Q (.int (n : Nat)) H
theorem cr_lenSet : CallR X (.builtin "len") (rLenSet X.w) := by
  intro pins s σ H xs us Q I r h
  obtain ⟨a, S, n, rfl, ha, hn, q⟩ := h
  rw [Vals.ref1 r]
  obtain ⟨o, es, ep, t, ho, hex, hd, _, _, _, _, hf, sz, _⟩ := setO_get I ha
  exact call_len_set ho hex hd hf (by omega) ⟨.int n, H, I.tok _, ⟨_, by rw [sz]⟩, q⟩
def intsOf (p : PV) : Option (List Int) := match p with
  | .lst ps => ints? ps
  | _ => none
def dSortSet (da : Den) : Den := fun ρ => (da ρ).bind fun p ρ1 => match intsOf p with
  | some ns => if ns.length ≤ 4000 ∧ (sortU ns).length < 64 then .ok (.lst ((sortU ns).map .int)) ρ1 else .bad
  | none => .bad
def dLenSet (da : Den) : Den := fun ρ => (da ρ).bind fun p ρ1 => match intsOf p with
  | some ns => if ns.length ≤ 4000 then .ok (.int (sortU ns).length) ρ1 else .bad
  | none => .bad
theorem df_sortSet (c : Ctx X W k) (B : Bi X.mg) (ha : DE X W a da) (hg : Gl X "sorted" := by rfl) (hg2 : Gl X "set" := by rfl) (na : starEach [a] X.env = (false, eval a X.env) :: starEach [] X.env := by rfl) (nb : starEach [.Call (.Name "set" p2) [a] [] p3] X.env = (false, eval (.Call (.Name "set" p2) [a] [] p3) X.env) :: starEach [] X.env := by rfl) :
    DF X W (.Call (.Name "sorted" p) [.Call (.Name "set" p2) [a] [] p3] [] pos) (dSortSet da) :=
  DF.of (pe_callB (cr_sortedSet c.calm) hg B.sorted (by decide +kernel) (pa_cons (pe_callTy (cr_setI c.calm) hg2 B.set (by decide +kernel) (pa_cons ha pa_nil na) (by decide) (by decide) na rfl) pa_nil nb) (by decide) (by decide) nb rfl) fun H₀ S₀ M S σ H ρ Q ab hp =>
    canon_ok.bind (Rl := rV X.K) (Rl' := rF X.K) ab hp fun q ρ1 v S1 H1 _ a1 _ r1 hp => by
      have r1 : Rep X.K S1 q v := r1
      cases e1 : intsOf q with
      | none => simp only [e1] at hp; exact hp.elim
      | some ns =>
        simp only [e1] at hp
        split at hp
        · rename_i hz
          unfold intsOf at e1
          split at e1
          · cases r1 with
            | lst h1 h2 =>
              have e2 := ints_rep e1 h2
              subst e2
              refine ⟨_, ns, rfl, .inl (.inl (a1.sub _ _ h1)), hz.1, fun b n => ?_⟩
              refine ⟨b, _, _, rfl, upd_same, hz.2, fun ms c hs hm _ n2 => ?_⟩
              have e3 := sortU_uniq hs (l := ns) fun k => by rw [hm k]; simp
              subst e3
              have a2 := a1.step (Step.hid (o := SetO X.w b (fun j => decide (j ∈ ns)) (sortU ns).length) a1.sub n)
              exact hp _ S1 _ (a2.fresh n2 (p := .lst _) (o := .lst _) (repInts _)).1 (a2.fresh n2 (p := .lst _) (o := .lst _) (repInts _)).2
          · cases e1
        · exact hp.elim
theorem de_lenSet (c : Ctx X W k) (B : Bi X.mg) (ha : DE X W a da) (hg : Gl X "len" := by rfl) (hg2 : Gl X "set" := by rfl) (na : starEach [a] X.env = (false, eval a X.env) :: starEach [] X.env := by rfl) (nb : starEach [.Call (.Name "set" p2) [a] [] p3] X.env = (false, eval (.Call (.Name "set" p2) [a] [] p3) X.env) :: starEach [] X.env := by rfl) :
    DE X W (.Call (.Name "len" p) [.Call (.Name "set" p2) [a] [] p3] [] pos) (dLenSet da) :=
  DE.of (pe_callB cr_lenSet hg B.len (by decide +kernel) (pa_cons (pe_callTy (cr_setI c.calm) hg2 B.set (by decide +kernel) (pa_cons ha pa_nil na) (by decide) (by decide) na rfl) pa_nil nb) (by decide) (by decide) nb rfl) fun H₀ S₀ M S σ H ρ Q ab hp =>
    canon_ok.bind (Rl := rV X.K) (Rl' := rV X.K) ab hp fun q ρ1 v S1 H1 _ a1 _ r1 hp => by
      have r1 : Rep X.K S1 q v := r1
      cases e1 : intsOf q with
      | none => simp only [e1] at hp; exact hp.elim
      | some ns =>
        simp only [e1] at hp
        split at hp
        · rename_i hz
          unfold intsOf at e1
          split at e1
          · cases r1 with
            | lst h1 h2 =>
              have e2 := ints_rep e1 h2
              subst e2
              refine ⟨_, ns, rfl, .inl (.inl (a1.sub _ _ h1)), hz, fun b n => ?_⟩
              have a2 := a1.step (Step.hid (o := SetO X.w b (fun j => decide (j ∈ ns)) (sortU ns).length) a1.sub n)
              exact ⟨b, _, _, rfl, upd_same, Nat.le_trans (sortU_len ns) hz, hp _ S1 _ a2 (.int _)⟩
          · cases e1
        · exact hp.elim
@[simp] theorem ap_dSortSet {ρ : Env} : dSortSet da ρ = (da ρ).bind fun p ρ1 => match intsOf p with
  | some ns => if ns.length ≤ 4000 ∧ (sortU ns).length < 64 then .ok (.lst ((sortU ns).map .int)) ρ1 else .bad
  | none => .bad := id rfl
@[simp] theorem ap_dLenSet {ρ : Env} : dLenSet da ρ = (da ρ).bind fun p ρ1 => match intsOf p with
  | some ns => if ns.length ≤ 4000 then .ok (.int (sortU ns).length) ρ1 else .bad
  | none => .bad := id rfl
end
end PL

set_option Elab.async false
set_option linter.all false
set_option maxRecDepth 100000
set_option maxHeartbeats 4000000
namespace PL
open PySem PySem.Spec L2
set_option autoImplicit false
/-! ### a body, statement by statement -/
theorem sq_step {a b : DenS} {ρ ρ1 : Env} {r : RS} (h : a ρ = .nx ρ1) (h2 : b ρ1 = r) : sSeq a b ρ = r := by rw [seq_nx h]; exact h2
theorem szn {n : Nat} (h : n ≤ 1000000) : n ≤ sizeLine := by rw [sizeLine_eq]; omega
theorem szl {n : Nat} (h : n ≤ 1000000) : n < sizeLine := by rw [sizeLine_eq]; omega
theorem smI {i : Int} (h1 : -1000000000000000000 ≤ i) (h2 : i ≤ 1000000000000000000) : smallI i = true := by
  unfold smallI
  simp only [Bool.and_eq_true, decide_eq_true_eq]
  omega
theorem tkn {ds : List Int} {m : Nat} (h : 0 < m) : ∃ v : Nat, v < m ∧ (tk ds m).1 = v := by
  have h1 := tk_lt (ds := ds) (m := (m : Int)) (by omega)
  obtain ⟨v, hv⟩ := Int.eq_ofNat_of_zero_le h1.1
  exact ⟨v, by omega, hv⟩
theorem take_nat (ds : List Int) (m : Nat) (h : 0 < m) : ∃ (v : Nat) (ds' : List Int), v < m ∧ F_take [dk ds, .int (m : Int)] = .ok (.int (v : Int)) (dk ds') := by
  obtain ⟨v, h1, h2⟩ := tkn (ds := ds) h
  exact ⟨v, _, h1, by rw [F_take_eq (by omega), h2]⟩
theorem take_int (ds : List Int) (m : Int) (h : 0 < m) : ∃ (v : Int) (ds' : List Int), 0 ≤ v ∧ v < m ∧ F_take [dk ds, .int m] = .ok (.int v) (dk ds') := by
  have h1 := tk_lt (ds := ds) (m := m) h
  exact ⟨_, _, h1.1, h1.2, F_take_eq h⟩
/-! ### comprehensions without an effect -/
theorem lc_mapG {own : List Nat} {tg : DenG} {E : Den} {α : Type} (g f : α → PV) (ρ : Env) : ∀ (l : List α), (∀ c ∈ l, ∃ ρ1 ρ2, tg (g c) ρ = some ρ1 ∧ E ρ1 = .ok (f c) ρ2 ∧ noOw ρ2 = true ∧ wipeE own ρ2 = ρ) → lcLoop own tg bYes E (l.map g) ρ = some (l.map f, ρ)
  | [], _ => rfl
  | c :: l, h => by
    obtain ⟨ρ1, ρ2, h1, h2, h3, h4⟩ := h c List.mem_cons_self
    have ih := lc_mapG (own := own) (tg := tg) (E := E) g f ρ l fun d hd => h d (List.mem_cons_of_mem _ hd)
    rw [List.map_cons, lcLoop]
    simp only [h1, h2, h3, if_true, h4, ap_bYes, ih, List.map_cons]
theorem lc_filter {own : List Nat} {tg : DenG} {T : DenB} {E : Den} {α : Type} (g f : α → PV) (t : α → Bool) (ρ : Env) : ∀ (l : List α), (∀ c ∈ l, ∃ ρ1 ρ2, tg (g c) ρ = some ρ1 ∧ T ρ1 = .ok (t c) ρ2 ∧ if t c = true then ∃ ρ3, E ρ2 = .ok (f c) ρ3 ∧ noOw ρ3 = true ∧ wipeE own ρ3 = ρ else noOw ρ2 = true ∧ wipeE own ρ2 = ρ) → lcLoop own tg T E (l.map g) ρ = some ((l.filter t).map f, ρ)
  | [], _ => rfl
  | c :: l, h => by
    obtain ⟨ρ1, ρ2, h1, h2, h3⟩ := h c List.mem_cons_self
    have ih := lc_filter (own := own) (tg := tg) (T := T) (E := E) g f t ρ l fun d hd => h d (List.mem_cons_of_mem _ hd)
    rw [List.map_cons, lcLoop]
    cases ht : t c with
    | true =>
      rw [if_pos ht] at h3
      obtain ⟨ρ3, h4, h5, h6⟩ := h3
      simp only [h1, h2, ht, h4, h5, if_true, h6, ih, List.filter_cons, List.map_cons]
    | false =>
      rw [if_neg (by simp [ht])] at h3
      simp only [h1, h2, ht, h3.1, if_true, h3.2, ih, List.filter_cons, Bool.false_eq_true, if_false]
theorem ints_map : ∀ l : List Int, ints? (l.map .int) = some l
  | [] => rfl
  | i :: l => by simp [ints?, ints_map l]
theorem ints_mapF {α : Type} (f : α → Int) : ∀ l : List α, ints? (l.map fun c => PV.int (f c)) = some (l.map f)
  | [] => rfl
  | i :: l => by simp [ints?, ints_mapF f l]
theorem rangeP_map (lo : Int) (n : Nat) : rangeP lo n = (List.range n).map fun i => PV.int (lo + (i : Nat)) := rfl
/-! ### equal data -/
theorem okD_lay : ∀ (n : Nat) (p : PV), okD n p = true → p.toD.canLay0 = true ∧ p.toD.depth ≤ n
  | 0, p, h => by simp [okD] at h
  | n + 1, p, h => by
    have ih := okD_lay n
    have seq : ∀ (ps : List PV), okDs n ps = true → (PV.lst ps).toD.canLay0 = true ∧ (PV.lst ps).toD.depth ≤ n + 1 ∧ (PV.tup ps).toD.canLay0 = true ∧ (PV.tup ps).toD.depth ≤ n + 1 := by
      intro ps h3
      have h3 := okDs_iff.mp h3
      have h4 : PyData.canLayAll0 (toDs ps) = true := canAll_iff.mpr fun q hq => (ih q (h3 q hq)).1
      have h5 : PyData.depthAll (toDs ps) ≤ n := depthAll_le fun q hq => (ih q (h3 q hq)).2
      refine ⟨?_, ?_, ?_, ?_⟩
      · simp only [PV.toD, PyData.canLay0]; exact h4
      · simp only [PV.toD, PyData.depth]; omega
      · simp only [PV.toD, PyData.canLay0]; exact h4
      · simp only [PV.toD, PyData.depth]; omega
    cases p with
    | lst ps =>
      have h : ps.length ≤ 100000 ∧ okDs n ps = true := by simpa [okD] using h
      exact ⟨(seq ps h.2).1, (seq ps h.2).2.1⟩
    | tup ps =>
      have h : ps.length ≤ 100000 ∧ okDs n ps = true := by simpa [okD] using h
      exact ⟨(seq ps h.2).2.2.1, (seq ps h.2).2.2.2⟩
    | ktup ps =>
      have h : ps.length ≤ 100000 ∧ okDs n ps = true := by simpa [okD] using h
      exact ⟨(seq ps h.2).2.2.1, (seq ps h.2).2.2.2⟩
    | non => exact ⟨by decide +kernel, by simp [PV.toD, PyData.depth]⟩
    | bl b => cases b <;> exact ⟨by decide +kernel, by simp [PV.toD, PyData.depth]⟩
    | int i => exact ⟨by simp [PV.toD, PyData.canLay0], by simp [PV.toD, PyData.depth]⟩
    | str x =>
      have h : PyData.canLay0 (.str x) = true := by simpa [okD] using h
      exact ⟨by simpa [PV.toD] using h, by simp [PV.toD, PyData.depth]⟩
    | klst ps => simp [okD] at h
    | dic t ks vs => simp [okD] at h
    | fn a => simp [okD] at h
theorem okD_shaped {n : Nat} {p : PV} (h : okD n p = true) (hn : n ≤ 64) : SeqAt.shaped p.toD = true := by
  obtain ⟨h1, h2⟩ := okD_lay n p h
  simp only [SeqAt.shaped, h1, Bool.true_and, decide_eq_true_eq]
  omega
theorem pvEq_refl {n : Nat} {p : PV} (h : okD n p = true) : pvEq p p = true := SeqAt.eqv_refl _ (okD_lay n p h).1
theorem gEq_same {n : Nat} {p : PV} (h : okD n p = true) (hn : n ≤ 64) : gEq p p = some (.bl true) := by
  unfold gEq
  rw [okD_shaped h hn, pvEq_refl h]
  rfl
theorem gNe_same {n : Nat} {p : PV} (h : okD n p = true) (hn : n ≤ 64) : gNe p p = some (.bl false) := by
  unfold gNe
  rw [okD_shaped h hn, pvEq_refl h]
  rfl
theorem gEq_of {n : Nat} {p q : PV} (h : okD n p = true) (h' : okD n q = true) (hn : n ≤ 64) : gEq p q = some (.bl (pvEq p q)) := by
  unfold gEq
  rw [okD_shaped h hn, okD_shaped h' hn]
  rfl
theorem gNe_of {n : Nat} {p q : PV} (h : okD n p = true) (h' : okD n q = true) (hn : n ≤ 64) : gNe p q = some (.bl (!pvEq p q)) := by
  unfold gNe
  rw [okD_shaped h hn, okD_shaped h' hn]
  rfl
def isS (r : FR) (z : Str) : Bool := match r with
  | .ok (.str x) .non => x == z
  | _ => false
theorem isS_ok {r : FR} {z : Str} (h : isS r z = true) : r = .ok (.str z) .non := by
  unfold isS at h
  split at h
  · rw [beq_iff_eq] at h
    subst h
    rfl
  · cases h
/-! ### slots given back, one by one -/
def backR (own : List Nat) : Nat → Env → Env → Env
  | _, [], _ => []
  | k, s :: r, [] => (if own.contains k then clean s else Sl.back s .un) :: backR own (k + 1) r []
  | k, s :: r, t :: r' => (if own.contains k then clean s else Sl.back s t) :: backR own (k + 1) r r'
theorem backR_eq (own : List Nat) : ∀ (ρ ρ' : Env) (k : Nat), backR own k ρ ρ' = (List.range ρ.length).map fun i => if own.contains (k + i) then clean (ρ.getD i .un) else Sl.back (ρ.getD i .un) (ρ'.getD i .un)
  | [], _, _ => by simp [backR]
  | s :: r, [], k => by
    rw [backR, backR_eq own r [] (k + 1), List.length_cons, List.range_succ_eq_map]
    simp [Nat.add_assoc, Nat.add_comm 1, Function.comp_def]
  | s :: r, t :: r', k => by
    rw [backR, backR_eq own r r' (k + 1), List.length_cons, List.range_succ_eq_map]
    simp [Nat.add_assoc, Nat.add_comm 1, Function.comp_def]
theorem ap_backE {own : List Nat} {ρ ρ' : Env} : backE own ρ ρ' = backR own 0 ρ ρ' := by
  rw [backR_eq]
  simp [backE]
theorem ceil_nat (a m : Nat) (hm : 0 < m) : -(-(a : Int) / (m : Int)) = (((a + m - 1) / m : Nat) : Int) := by
  have h1 := Nat.div_add_mod (a + m - 1) m
  have h2 := Nat.mod_lt (a + m - 1) hm
  generalize (a + m - 1) / m = q at *
  generalize (a + m - 1) % m = r at *
  have h3 : -(a : Int) = ((m - 1 - r : Nat) : Int) + (m : Int) * (-(q : Int)) := by
    have h4 : ((m * q + r : Nat) : Int) = ((a + m - 1 : Nat) : Int) := by rw [h1]
    rw [Int.natCast_add, Int.natCast_mul] at h4
    rw [Int.mul_neg]
    omega
  rw [h3, Int.add_mul_ediv_left _ _ (by omega), Int.ediv_eq_zero_of_lt (by omega) (by omega)]
  omega
/-! ### a def's answer by its body's -/
section
variable {io fr : Bool} {n len : Nat} {d : DenS} {ps : List PV} {env ρ : Env} {p q : PV} {x : Exn}
theorem run_rt (e : d env = .rt p ρ) (hl : ps.length = n := by rfl) (henv : argSl false ps ++ List.replicate (len - n) .un = env := by rfl) : runD false fr n len d ps = .ok p .non := by
  unfold runD
  rw [if_pos hl, henv, e]
  rfl
theorem run_nx (e : d env = .nx ρ) (hl : ps.length = n := by rfl) (henv : argSl false ps ++ List.replicate (len - n) .un = env := by rfl) : runD false false n len d ps = .ok .non .non := by
  unfold runD
  rw [if_pos hl, henv, e]
  rfl
theorem run_exc (e : d env = .exc x ρ) (hl : ps.length = n := by rfl) (henv : argSl io ps ++ List.replicate (len - n) .un = env := by rfl) : runD io fr n len d ps = .exc x := by
  unfold runD
  rw [if_pos hl, henv, e]
theorem run_io (e : d env = .rt p (.io q :: ρ)) (hl : ps.length = n := by rfl) (henv : argSl true ps ++ List.replicate (len - n) .un = env := by rfl) : runD true fr n len d ps = .ok p q := by
  unfold runD
  rw [if_pos hl, henv, e]
  rfl
theorem run_ionx (e : d env = .nx (.io q :: ρ)) (hl : ps.length = n := by rfl) (henv : argSl true ps ++ List.replicate (len - n) .un = env := by rfl) : runD true false n len d ps = .ok .non q := by
  unfold runD
  rw [if_pos hl, henv, e]
  rfl
end
/-! ### equality, part by part -/
def pvEqs (xs ys : List PV) : Bool := PyData.eqvAll (toDs xs) (toDs ys)
section
variable {x y : PV} {xs ys : List PV}
theorem pvEq_lst : pvEq (.lst xs) (.lst ys) = pvEqs xs ys := by simp [pvEq, PV.toD, PyData.eqv, pvEqs]
theorem pvEq_tup : pvEq (.tup xs) (.tup ys) = pvEqs xs ys := by simp [pvEq, PV.toD, PyData.eqv, pvEqs]
theorem pvEq_str (a b : Str) : pvEq (.str a) (.str b) = decide (a = b) := eqv_str a b
theorem pvEq_bl (a b : Bool) : pvEq (.bl a) (.bl b) = (a == b) := by simp [pvEq, PV.toD, PyData.eqv]
theorem pvEqs_nil : pvEqs [] [] = true := by simp [pvEqs, toDs, PyData.eqvAll]
theorem pvEqs_cons : pvEqs (x :: xs) (y :: ys) = (pvEq x y && pvEqs xs ys) := by simp [pvEqs, toDs, PyData.eqvAll, pvEq]
theorem pvEqs_nc : pvEqs [] (y :: ys) = false := by simp [pvEqs, toDs, PyData.eqvAll]
theorem pvEqs_cn : pvEqs (x :: xs) [] = false := by simp [pvEqs, toDs, PyData.eqvAll]
end
theorem pvEqs_len : ∀ {xs ys : List PV}, pvEqs xs ys = true → xs.length = ys.length
  | [], [], _ => rfl
  | [], _ :: _, h => by rw [pvEqs_nc] at h; cases h
  | _ :: _, [], h => by rw [pvEqs_cn] at h; cases h
  | x :: xs, y :: ys, h => by
    rw [pvEqs_cons, Bool.and_eq_true] at h
    simp [pvEqs_len h.2]
theorem pvEqs_map {α : Type} [DecidableEq α] {f : α → PV} (hf : ∀ x y, pvEq (f x) (f y) = decide (x = y)) : ∀ l m : List α, pvEqs (l.map f) (m.map f) = decide (l = m)
  | [], [] => pvEqs_nil
  | [], _ :: _ => by simp [pvEqs_nc]
  | _ :: _, [] => by simp [pvEqs_cn]
  | x :: l, y :: m => by
    rw [List.map_cons, List.map_cons, pvEqs_cons, hf, pvEqs_map hf l m]
    simp
theorem okDs_map {α : Type} {n : Nat} {f : α → PV} {l : List α} (h : ∀ x ∈ l, okD n (f x) = true) : okDs n (l.map f) = true := by
  rw [okDs_iff]
  intro p hp
  obtain ⟨x, hx, rfl⟩ := List.mem_map.mp hp
  exact h x hx
theorem okD_lst {n : Nat} {ps : List PV} (h1 : ps.length ≤ 100000) (h2 : okDs n ps = true) : okD (n + 1) (.lst ps) = true := by simp [okD, h1, h2]
theorem okD_tup {n : Nat} {ps : List PV} (h1 : ps.length ≤ 100000) (h2 : okDs n ps = true) : okD (n + 1) (.tup ps) = true := by simp [okD, h1, h2]
theorem okD_int {n : Nat} (i : Int) : okD (n + 1) (.int i) = true := rfl
theorem okD_bl {n : Nat} (i : Bool) : okD (n + 1) (.bl i) = true := rfl
theorem okD_non {n : Nat} : okD (n + 1) .non = true := rfl
theorem okD_st {n : Nat} {l : List Nat} (h : asc l) : okD (n + 1) (.str (st l)) = true := by
  show PyData.canLay0 (.str (st l)) = true
  simp only [PyData.canLay0]
  exact strOk_st h
/-! ### comprehensions over one name, without an effect -/
theorem noOw_setS {i : Nat} {p : PV} : ∀ {ρ : Env}, noOw ρ = true → noOw (ρ.set i (.sh p)) = true := by
  intro ρ
  induction ρ generalizing i with
  | nil => intro h; simpa using h
  | cons s r ih =>
    intro h
    rw [noOw_cons, Bool.and_eq_true] at h
    cases i with
    | zero => simp [h.2]
    | succ i => rw [List.set_cons_succ, noOw_cons, h.1, ih h.2]; rfl
theorem set_un {ρ : Env} {i : Nat} {s : Sl} (h : ρ[i]? = some .un) : (ρ.set i s).set i .un = ρ := by
  rw [List.set_set]
  obtain ⟨hi, e⟩ := List.getElem?_eq_some_iff.mp h
  rw [← e]
  exact List.set_getElem_self hi
theorem lc_pure {α : Type} {i : Nat} {E : Den} {ρ : Env} (g f : α → PV) (l : List α) (h0 : ρ[i]? = some .un) (h1 : noOw ρ = true) (hE : ∀ c ∈ l, E (ρ.set i (.sh (g c))) = .ok (f c) (ρ.set i (.sh (g c)))) :
    lcLoop [i] (gName i) bYes E (l.map g) ρ = some (l.map f, ρ) :=
  lc_mapG g f ρ l fun c hc => ⟨_, _, rfl, hE c hc, noOw_setS h1, by simp only [wipeE]; exact set_un h0⟩
theorem lc_pureR {i n : Nat} {E : Den} {ρ : Env} (f : Nat → PV) (h0 : ρ[i]? = some .un) (h1 : noOw ρ = true) (hE : ∀ c, c < n → E (ρ.set i (.sh (.int (c : Nat)))) = .ok (f c) (ρ.set i (.sh (.int (c : Nat))))) :
    lcLoop [i] (gName i) bYes E (rangeP 0 n) ρ = some ((List.range n).map f, ρ) := by
  have e : rangeP 0 n = (List.range n).map fun i : Nat => PV.int (i : Int) := by simp [rangeP_map]
  rw [e]
  exact lc_pure (fun c : Nat => PV.int (c : Int)) f _ h0 h1 fun c hc => hE c (List.mem_range.mp hc)
theorem lc_pureF {α : Type} {i : Nat} {T : DenB} {E : Den} {ρ : Env} (g f : α → PV) (t : α → Bool) (l : List α) (h0 : ρ[i]? = some .un) (h1 : noOw ρ = true) (hT : ∀ c ∈ l, T (ρ.set i (.sh (g c))) = .ok (t c) (ρ.set i (.sh (g c)))) (hE : ∀ c ∈ l, t c = true → E (ρ.set i (.sh (g c))) = .ok (f c) (ρ.set i (.sh (g c)))) :
    lcLoop [i] (gName i) T E (l.map g) ρ = some ((l.filter t).map f, ρ) :=
  lc_filter g f t ρ l fun c hc => by
    refine ⟨_, _, rfl, hT c hc, ?_⟩
    split
    · rename_i h
      exact ⟨_, hE c hc h, noOw_setS h1, by simp only [wipeE]; exact set_un h0⟩
    · exact ⟨noOw_setS h1, by simp only [wipeE]; exact set_un h0⟩
theorem at0 {α : Type} (a : α) (l : List α) : L2.atI (a :: l) (0 : Int) = some a := atI_nat (xs := a :: l) (i := 0) (by simp)
theorem at1 {α : Type} (a b : α) (l : List α) : L2.atI (a :: b :: l) (1 : Int) = some b := atI_nat (xs := a :: b :: l) (i := 1) (by simp)
theorem at2 {α : Type} (a b c : α) (l : List α) : L2.atI (a :: b :: c :: l) (2 : Int) = some c := atI_nat (xs := a :: b :: c :: l) (i := 2) (by simp)
theorem at3 {α : Type} (a b c d : α) (l : List α) : L2.atI (a :: b :: c :: d :: l) (3 : Int) = some d := atI_nat (xs := a :: b :: c :: d :: l) (i := 3) (by simp)
@[simp] theorem ap_listOfL (ps : List PV) : gListOf [.lst ps] = some (.lst ps) := id rfl
@[simp] theorem ap_listOfT (ps : List PV) : gListOf [.tup ps] = some (.lst ps) := id rfl
theorem ap_sortedI (l : List Int) : gSorted [.lst (l.map .int)] = some (.lst ((sortI l).map .int)) := by simp [gSorted, ints_map]
theorem ap_sumI (l : List Int) : gSumN [.lst (l.map .int)] = some (.int l.sum) := by simp [gSumN, ints_map]
end PL

set_option Elab.async false
set_option linter.all false
set_option maxRecDepth 100000
set_option maxHeartbeats 4000000
namespace PL.K91
open PySem PySem.Spec L2 PL
open PyProof.Rows hiding St
set_option autoImplicit false
def top (i : Nat) : Stmt := PySem.Challenge.pw_presswork_k91_whole_books_weighed_and_se.main.body.getD i (.Pass ⟨0, 0, 0, 0⟩)

abbrev errs : List Str := [("InvalidLength" : Str), ("InvalidMarks" : Str), ("InvalidSheet" : Str), ("TooMany" : Str)]
abbrev c_MOST_PAGES_sections : PV := .int (4000)
abbrev c_MOST_PAGES_sheets : PV := .int (10000)
abbrev c_MOST_SECTIONS : PV := .int (500)
abbrev c_MOST_STATIONS : PV := .int (100)
abbrev c_SQUARE_METRE : PV := .int (10000000000)
abbrev s__law_deck : Stmt := top 38
abbrev s_check_book : Stmt := top 14
abbrev s_section_from : Stmt := top 15
abbrev s_sections_for : Stmt := top 16
abbrev s_leaves_of : Stmt := top 33
abbrev s_check_size : Stmt := top 25
abbrev s_check_grams : Stmt := top 30
abbrev s_fraction : Stmt := top 27
abbrev s_weight : Stmt := top 31
abbrev s__law_take : Stmt := top 39
abbrev s_most_grams : Stmt := top 36
abbrev s_check_sheets : Stmt := top 9
abbrev s_nested : Stmt := top 10
abbrev s_check_sewing : Stmt := top 20
abbrev s_sewing : Stmt := top 21
abbrev s__law_plain : Stmt := top 40
abbrev s_thickness : Stmt := top 32
abbrev s_spine : Stmt := top 34
abbrev s_book_weight : Stmt := top 35
abbrev s__law_divisor : Stmt := top 41
abbrev s__law_fraction : Stmt := top 42
abbrev s_creep : Stmt := top 11
abbrev s_judge_sewing : Stmt := top 23
abbrev s_thread_length : Stmt := top 22
abbrev s_law : Stmt := top 43
abbrev F__law_deck := F_deck
def den_check_book : DenS :=
  (sSeq (sIf (bVal (d2 gLt (dVar 0) (dC (.int 1)))) (sRaise ("InvalidSheet" : Str) "what" (dC (.str ("pages" : Str)))) sNx)
    (sSeq (sIf (bVal (d2 gLt (dVar 1) (dC (.int 1)))) (sRaise ("InvalidSheet" : Str) "what" (dC (.str ("most" : Str)))) sNx)
    (sIf (bVal (d2 gGt (dVar 0) (dC c_MOST_PAGES_sections))) (sRaise ("TooMany" : Str) "what" (dC (.str ("pages" : Str)))) sNx)))
def F_check_book : List PV → FR := runD false false 2 2 den_check_book
def E_section_from_1 : Den :=
  (dTup (dCons (dSub (dVar 2) (dMul (dC (.int 2)) (dVar 3))) (dCons (dAdd (dVar 0) (dMul (dC (.int 2)) (dVar 3))) (dCons (dAdd (dAdd (dVar 0) (dMul (dC (.int 2)) (dVar 3))) (dC (.int 1))) (dCons (dSub (dSub (dVar 2) (dMul (dC (.int 2)) (dVar 3))) (dC (.int 1))) dNil)))))
def den_section_from : DenS :=
  (sSeq (sSet 2 (dSub (dAdd (dVar 0) (dMul (dC (.int 4)) (dVar 1))) (dC (.int 1))))
    (sRet (dLc [3] (iR1 (dCons (dVar 1) dNil)) (gName 3) bYes E_section_from_1)))
def F_section_from : List PV → FR := runD false false 2 4 den_section_from
def B_sections_for_1 : DenS :=
  (sSeq (sSet 7 (dAdd (dFdivW (dVar 2) (dVar 3)) (dN gInt (dCons (d2 gLt (dVar 6) (dMod (dVar 2) (dVar 3))) dNil))))
    (sSeq (sExpr (dMut "list" gAppend 4 (dCons (dCall F_section_from (dCons (dVar 5) (dCons (dVar 7) dNil))) dNil)))
    (sSet 5 (dAdd (dVar 5) (dMul (dC (.int 4)) (dVar 7))))))
def den_sections_for : DenS :=
  (sSeq (sExpr (dCall F_check_book (dCons (dVar 0) (dCons (dVar 1) dNil))))
    (sSeq (sSet 2 (dNeg (dFdivW (dNeg (dVar 0)) (dC (.int 4)))))
    (sSeq (sSet 3 (dNeg (dFdivW (dNeg (dVar 2)) (dVar 1))))
    (sSeq (sSetF 4 (dLst dNil))
    (sSeq (sSet 5 (dC (.int 1)))
    (sSeq (sFor (iR1 (dCons (dVar 3) dNil)) (gName 6) B_sections_for_1)
    (sRet (dVar 4))))))))
def F_sections_for : List PV → FR := runD false false 2 8 den_sections_for
def den_leaves_of : DenS :=
  (sSeq (sIf (bVal (d2 gLt (dVar 0) (dC (.int 1)))) (sRaise ("InvalidLength" : Str) "what" (dC (.str ("pages" : Str)))) sNx)
    (sRet (dFdivW (dAdd (dVar 0) (dC (.int 1))) (dC (.int 2)))))
def F_leaves_of : List PV → FR := runD false false 1 1 den_leaves_of
def den_check_size : DenS :=
  (sIf (bOr (bVal (d2 gLt (dVar 0) (dC (.int 1)))) (bVal (d2 gLt (dVar 1) (dC (.int 1))))) (sRaise ("InvalidLength" : Str) "what" (dC (.str ("size" : Str)))) sNx)
def F_check_size : List PV → FR := runD false false 2 2 den_check_size
def den_check_grams : DenS :=
  (sIf (bVal (d2 gLt (dVar 0) (dC (.int 1)))) (sRaise ("InvalidLength" : Str) "what" (dC (.str ("grams" : Str)))) sNx)
def F_check_grams : List PV → FR := runD false false 1 1 den_check_grams
def den_fraction : DenS :=
  (sSeq (sSet 2 (dN gGcd (dCons (dVar 0) (dCons (dVar 1) dNil))))
    (sSeq (sIf (bVal (d2 gLt (dVar 1) (dC (.int 0)))) (sSet 2 (dNeg (dVar 2))) sNx)
    (sRet (dTup (dCons (dFdivW (dVar 0) (dVar 2)) (dCons (dFdivW (dVar 1) (dVar 2)) dNil))))))
def F_fraction : List PV → FR := runD false false 2 3 den_fraction
def den_weight : DenS :=
  (sSeq (sExpr (dCall F_check_size (dCons (dVar 0) (dCons (dVar 1) dNil))))
    (sSeq (sExpr (dCall F_check_grams (dCons (dVar 2) dNil)))
    (sSeq (sIf (bVal (d2 gLt (dVar 3) (dC (.int 0)))) (sRaise ("InvalidLength" : Str) "what" (dC (.str ("sheets" : Str)))) sNx)
    (sRet (dCall F_fraction (dCons (dMul (dMul (dMul (dVar 0) (dVar 1)) (dVar 2)) (dVar 3)) (dCons (dC c_SQUARE_METRE) dNil)))))))
def F_weight : List PV → FR := runD false false 4 4 den_weight
abbrev F__law_take := F_take
def den_most_grams : DenS :=
  (sSeq (sExpr (dCall F_check_size (dCons (dVar 0) (dCons (dVar 1) dNil))))
    (sSeq (sSet 4 (dCall F_leaves_of (dCons (dVar 2) dNil)))
    (sSeq (sIf (bVal (d2 gLt (dVar 3) (dC (.int 0)))) (sRaise ("InvalidLength" : Str) "what" (dC (.str ("limit" : Str)))) sNx)
    (sRet (dFdivW (dMul (dVar 3) (dC c_SQUARE_METRE)) (dMul (dMul (dVar 4) (dVar 0)) (dVar 1)))))))
def F_most_grams : List PV → FR := runD false false 4 5 den_most_grams
def den_check_sheets : DenS :=
  (sSeq (sIf (bVal (d2 gLt (dVar 0) (dC (.int 1)))) (sRaise ("InvalidSheet" : Str) "what" (dC (.str ("sheets" : Str)))) sNx)
    (sSeq (sIf (bOr (bVal (d2 gLt (dVar 1) (dC (.int 4)))) (bVal (d2 gNe (dMod (dVar 1) (dC (.int 4))) (dC (.int 0))))) (sRaise ("InvalidSheet" : Str) "what" (dC (.str ("pages" : Str)))) sNx)
    (sIf (bVal (d2 gGt (dMul (dVar 0) (dVar 1)) (dC c_MOST_PAGES_sheets))) (sRaise ("TooMany" : Str) "what" (dC (.str ("pages" : Str)))) sNx)))
def F_check_sheets : List PV → FR := runD false false 2 2 den_check_sheets
def B_nested_1 : DenS :=
  (sSeq (sSet 6 (dLR2 (dAdd (dMul (dVar 5) (dVar 2)) (dC (.int 1))) (dAdd (dMul (dAdd (dVar 5) (dC (.int 1))) (dVar 2)) (dC (.int 1)))))
    (sExpr (dMut "list" gAppend 4 (dCons (dAdd (dVar 6) (dLR2 (dAdd (dSub (dVar 3) (dMul (dAdd (dVar 5) (dC (.int 1))) (dVar 2))) (dC (.int 1))) (dAdd (dSub (dVar 3) (dMul (dVar 5) (dVar 2))) (dC (.int 1))))) dNil))))
def den_nested : DenS :=
  (sSeq (sExpr (dCall F_check_sheets (dCons (dVar 0) (dCons (dVar 1) dNil))))
    (sSeq (sSet 2 (dFdivW (dVar 1) (dC (.int 2))))
    (sSeq (sSet 3 (dMul (dVar 0) (dVar 1)))
    (sSeq (sSetF 4 (dLst dNil))
    (sSeq (sFor (iR1 (dCons (dVar 0) dNil)) (gName 5) B_nested_1)
    (sRet (dVar 4)))))))
def F_nested : List PV → FR := runD false false 2 7 den_nested
def den_check_sewing : DenS :=
  (sSeq (sIf (bVal (d2 gLt (dVar 0) (dC (.int 1)))) (sRaise ("InvalidMarks" : Str) "what" (dC (.str ("sections" : Str)))) sNx)
    (sSeq (sIf (bOr (bVal (d2 gEq (dMod (dVar 1) (dC (.int 2))) (dC (.int 1)))) (bVal (d2 gLt (dVar 1) (dC (.int 4))))) (sRaise ("InvalidMarks" : Str) "what" (dC (.str ("stations" : Str)))) sNx)
    (sIf (bOr (bVal (d2 gGt (dVar 0) (dC c_MOST_SECTIONS))) (bVal (d2 gGt (dVar 1) (dC c_MOST_STATIONS)))) (sRaise ("TooMany" : Str) "what" (dC (.str ("sections" : Str)))) sNx)))
def F_check_sewing : List PV → FR := runD false false 2 2 den_check_sewing
def B_sewing_2 : DenS :=
  (sExpr (dMut "list" gAppend 2 (dCons (dTup (dCons (d2 gIx (dLst (dCons (dC (.str ("in" : Str))) (dCons (dC (.str ("out" : Str))) dNil))) (dMod (dVar 5) (dC (.int 2)))) (dCons (dVar 3) (dCons (dVar 6) dNil)))) dNil)))
def B_sewing_1 : DenS :=
  (sSeq (sSet 4 (dLR2 (dC (.int 1)) (dAdd (dVar 1) (dC (.int 1)))))
    (sSeq (sIf (bVal (d2 gEq (dMod (dVar 3) (dC (.int 2))) (dC (.int 1)))) (sSet 4 (dRevL (dVar 4))) sNx)
    (sSeq (sFor (iEnu (dCons (dVar 4) dNil)) (gTup (gsCons (gName 5) (gsCons (gName 6) gsNil))) B_sewing_2)
    (sSeq (sIf (bVal (d2 gEq (dVar 3) (dC (.int 1)))) (sExpr (dMut "list" gAppend 2 (dCons (dTup (dCons (dC (.str ("knot" : Str))) (dCons (dVar 3) (dCons (d2 gIx (dVar 4) (dNeg (dC (.int 1)))) dNil)))) dNil))) sNx)
    (sIf (bVal (d2 gGt (dVar 3) (dC (.int 1)))) (sExpr (dMut "list" gAppend 2 (dCons (dTup (dCons (dC (.str ("link" : Str))) (dCons (dVar 3) (dCons (d2 gIx (dVar 4) (dNeg (dC (.int 1)))) dNil)))) dNil))) sNx)))))
def den_sewing : DenS :=
  (sSeq (sExpr (dCall F_check_sewing (dCons (dVar 0) (dCons (dVar 1) dNil))))
    (sSeq (sSetF 2 (dLst dNil))
    (sSeq (sFor (iR1 (dCons (dVar 0) dNil)) (gName 3) B_sewing_1)
    (sRet (dVar 2)))))
def F_sewing : List PV → FR := runD false false 2 7 den_sewing
abbrev F__law_plain_ := F_plain_
abbrev F__law_plain : List PV → FR := F__law_plain_ 3
def den_thickness : DenS :=
  (sSeq (sExpr (dCall F_check_grams (dCons (dVar 0) dNil)))
    (sSeq (sIf (bVal (d2 gLt (dVar 1) (dC (.int 1)))) (sRaise ("InvalidLength" : Str) "what" (dC (.str ("bulk" : Str)))) sNx)
    (sSeq (sIf (bVal (d2 gLt (dVar 2) (dC (.int 0)))) (sRaise ("InvalidLength" : Str) "what" (dC (.str ("sheets" : Str)))) sNx)
    (sRet (dCall F_fraction (dCons (dMul (dMul (dVar 0) (dVar 1)) (dVar 2)) (dCons (dC (.int 1000)) dNil)))))))
def F_thickness : List PV → FR := runD false false 3 3 den_thickness
def den_spine : DenS :=
  (sSeq (sSet 3 (dCall F_leaves_of (dCons (dVar 0) dNil)))
    (sSeq (sAsg (dCall F_thickness (dCons (dVar 1) (dCons (dVar 2) (dCons (dVar 3) dNil)))) (gTup (gsCons (gName 4) (gsCons (gName 5) gsNil))))
    (sRet (dNeg (dFdivW (dNeg (dVar 4)) (dVar 5))))))
def F_spine : List PV → FR := runD false false 3 6 den_spine
def den_book_weight : DenS :=
  (sSeq (sExpr (dCall F_check_size (dCons (dVar 0) (dCons (dVar 1) dNil))))
    (sSeq (sSet 6 (dCall F_spine (dCons (dVar 2) (dCons (dVar 3) (dCons (dVar 4) dNil)))))
    (sSeq (sExpr (dCall F_check_grams (dCons (dVar 5) dNil)))
    (sSeq (sSet 7 (dMul (dMul (dMul (dCall F_leaves_of (dCons (dVar 2) dNil)) (dVar 0)) (dVar 1)) (dVar 3)))
    (sRet (dCall F_fraction (dCons (dAdd (dVar 7) (dMul (dMul (dAdd (dMul (dC (.int 2)) (dVar 0)) (dVar 6)) (dVar 1)) (dVar 5))) (dCons (dC c_SQUARE_METRE) dNil))))))))
def F_book_weight : List PV → FR := runD false false 6 8 den_book_weight
def B__law_divisor_1 : DenS :=
  (sPar 0 1 (dCons (dVar 1) (dCons (dMod (dN gInt (dCons (dVar 0) dNil)) (dVar 1)) dNil)))
def den__law_divisor : DenS :=
  (sSeq (sWhile (muI 1) (bVal (d2 gNe (dVar 1) (dC (.int 0)))) B__law_divisor_1)
    (sRet (dN gAbs (dCons (dVar 0) dNil))))
def F__law_divisor : List PV → FR := runD false false 2 2 den__law_divisor
def den__law_fraction : DenS :=
  (sSeq (sSet 2 (dCall F__law_divisor (dCons (dVar 0) (dCons (dVar 1) dNil))))
    (sRet (dTup (dCons (dFdivW (dVar 0) (dVar 2)) (dCons (dFdivW (dVar 1) (dVar 2)) dNil)))))
def F__law_fraction : List PV → FR := runD false false 2 3 den__law_fraction
def E_creep_1 : Den :=
  (dMul (dVar 2) (dVar 1))
def den_creep : DenS :=
  (sSeq (sIf (bVal (d2 gLt (dVar 0) (dC (.int 1)))) (sRaise ("InvalidSheet" : Str) "what" (dC (.str ("sheets" : Str)))) sNx)
    (sSeq (sIf (bVal (d2 gLt (dVar 1) (dC (.int 0)))) (sRaise ("InvalidLength" : Str) "what" (dC (.str ("thickness" : Str)))) sNx)
    (sRet (dLc [2] (iR1 (dCons (dVar 0) dNil)) (gName 2) bYes E_creep_1))))
def F_creep : List PV → FR := runD false false 2 3 den_creep
def E_judge_sewing_1 : Den :=
  (dN gTupOf (dCons (dVar 3) dNil))
def den_judge_sewing : DenS :=
  (sSeq (sExpr (dCall F_check_sewing (dCons (dVar 0) (dCons (dVar 1) dNil))))
    (sRet (d2 gEq (dLc [3] (iSeq (dVar 2)) (gName 3) bYes E_judge_sewing_1) (dCall F_sewing (dCons (dVar 0) (dCons (dVar 1) dNil))))))
def F_judge_sewing : List PV → FR := runD false false 3 4 den_judge_sewing
def den_thread_length : DenS :=
  (sSeq (sIf (bVal (d2 gLt (dVar 0) (dC (.int 1)))) (sRaise ("InvalidMarks" : Str) "what" (dC (.str ("sections" : Str)))) sNx)
    (sSeq (sIf (bVal (d2 gLt (dVar 1) (dC (.int 0)))) (sRaise ("InvalidMarks" : Str) "what" (dC (.str ("thickness" : Str)))) sNx)
    (sSeq (sIf (bOr (bVal (d2 gLt (dN gLenN (dCons (dVar 2) dNil)) (dC (.int 4)))) (bOr (bVal (d2 gEq (dMod (dN gLenN (dCons (dVar 2) dNil)) (dC (.int 2))) (dC (.int 1)))) (bVal (d2 gNe (dN gListOf (dCons (dVar 2) dNil)) (dSortSet (dVar 2)))))) (sRaise ("InvalidMarks" : Str) "what" (dC (.str ("stations" : Str)))) sNx)
    (sRet (dAdd (dMul (dVar 0) (dSub (d2 gIx (dVar 2) (dNeg (dC (.int 1)))) (d2 gIx (dVar 2) (dC (.int 0))))) (dMul (dSub (dVar 0) (dC (.int 1))) (dVar 1)))))))
def F_thread_length : List PV → FR := runD false false 3 3 den_thread_length
def E_law_1 : Den :=
  (dN gLenN (dCons (dVar 27) dNil))
def E_law_2 : Den :=
  (dMul (dVar 20) (dVar 28))
def E_law_3 : Den :=
  (dVar 29)
def T_law_3 : DenB :=
  (bVal (d2 gEq (d2 gIx (dVar 29) (dC (.int 0))) (dC (.str ("in" : Str)))))
def E_law_4 : Den :=
  (dVar 29)
def T_law_4 : DenB :=
  (bVal (d2 gEq (d2 gIx (dVar 29) (dC (.int 0))) (dC (.str ("knot" : Str)))))
def E_law_5 : Den :=
  (dVar 29)
def T_law_5 : DenB :=
  (bVal (d2 gEq (d2 gIx (dVar 29) (dC (.int 0))) (dC (.str ("link" : Str)))))
def E_law_6 : Den :=
  (dAdd (dMul (dC (.int 100)) (dVar 28)) (dC (.int 7)))
def den_law : DenS :=
  (sSeq (sSetF 1 (dCall F__law_deck (dCons (dVar 0) (dCons (dC (.int 40)) (dCons (dC (.int 14)) dNil)))))
    (sSeq (sSet 2 (dAdd (dC (.int 1)) (dCallIo F__law_take 1 (dCons (dC (.int 120)) dNil))))
    (sSeq (sSet 3 (dAdd (dC (.int 1)) (dCallIo F__law_take 1 (dCons (dC (.int 6)) dNil))))
    (sSeq (sSet 4 (dAdd (dC (.int 40)) (dCallIo F__law_take 1 (dCons (dC (.int 100)) dNil))))
    (sSeq (sSet 5 (dAdd (dC (.int 90)) (dCallIo F__law_take 1 (dCons (dC (.int 80)) dNil))))
    (sSeq (sSet 6 (dCall F_sections_for (dCons (dVar 2) (dCons (dVar 3) dNil))))
    (sSeq (sSet 7 (dN gSumN (dCons (dLc [27] (iSeq (dVar 6)) (gName 27) bYes E_law_1) dNil)))
    (sSeq (sSet 8 (dCall F_leaves_of (dCons (dVar 2) dNil)))
    (sSeq (sIf (bOr (bVal (d2 gNe (dVar 8) (dFdivW (dAdd (dVar 2) (dC (.int 1))) (dC (.int 2))))) (bNot (bVal (dChain gLe gLe (dSub (dMul (dC (.int 2)) (dVar 7)) (dC (.int 1))) (dVar 8) (dMul (dC (.int 2)) (dVar 7)))))) (sRet (dC (.bl false))) sNx)
    (sSeq (sIf (bVal (d2 gNe (dCall F__law_plain (dCons (dCall F_thickness (dCons (dVar 4) (dCons (dVar 5) (dCons (dVar 8) dNil)))) dNil)) (dCall F__law_plain (dCons (dCall F__law_fraction (dCons (dMul (dMul (dVar 8) (dVar 4)) (dVar 5)) (dCons (dC (.int 1000)) dNil))) dNil)))) (sRet (dC (.bl false))) sNx)
    (sSeq (sIf (bVal (d2 gNe (dCall F__law_plain (dCons (dCall F_spine (dCons (dVar 2) (dCons (dVar 4) (dCons (dVar 5) dNil)))) dNil)) (dCall F__law_plain (dCons (dNeg (dFdivW (dMul (dMul (dNeg (dVar 8)) (dVar 4)) (dVar 5)) (dC (.int 1000)))) dNil)))) (sRet (dC (.bl false))) sNx)
    (sSeq (sSet 9 (dAdd (dC (.int 1000)) (dMul (dC (.int 100)) (dCallIo F__law_take 1 (dCons (dC (.int 200)) dNil)))))
    (sSeq (sSet 10 (dAdd (dC (.int 1000)) (dMul (dC (.int 100)) (dCallIo F__law_take 1 (dCons (dC (.int 200)) dNil)))))
    (sSeq (sSet 11 (dCall F_weight (dCons (dVar 9) (dCons (dVar 10) (dCons (dVar 4) (dCons (dMul (dC (.int 2)) (dVar 7)) dNil))))))
    (sSeq (sIf (bVal (d2 gNe (dCall F__law_plain (dCons (dVar 11) dNil)) (dCall F__law_plain (dCons (dCall F_weight (dCons (dMul (dC (.int 2)) (dVar 9)) (dCons (dVar 10) (dCons (dVar 4) (dCons (dVar 7) dNil))))) dNil)))) (sRet (dC (.bl false))) sNx)
    (sSeq (sIf (bVal (d2 gNe (dCall F__law_plain (dCons (dVar 11) dNil)) (dCall F__law_plain (dCons (dCall F__law_fraction (dCons (dMul (dMul (dMul (dMul (dC (.int 2)) (dVar 7)) (dVar 9)) (dVar 10)) (dVar 4)) (dCons (dC (.int 10000000000)) dNil))) dNil)))) (sRet (dC (.bl false))) sNx)
    (sSeq (sSet 12 (dAdd (dC (.int 100)) (dCallIo F__law_take 1 (dCons (dC (.int 200)) dNil))))
    (sSeq (sSet 13 (dAdd (dMul (dC (.int 2)) (dVar 9)) (dCall F_spine (dCons (dVar 2) (dCons (dVar 4) (dCons (dVar 5) dNil))))))
    (sSeq (sSet 14 (dCall F_weight (dCons (dVar 9) (dCons (dVar 10) (dCons (dVar 4) (dCons (dVar 8) dNil))))))
    (sSeq (sSet 15 (dCall F_weight (dCons (dVar 13) (dCons (dVar 10) (dCons (dVar 12) (dCons (dC (.int 1)) dNil))))))
    (sSeq (sSet 16 (dAdd (dMul (d2 gIx (dVar 14) (dC (.int 0))) (d2 gIx (dVar 15) (dC (.int 1)))) (dMul (d2 gIx (dVar 15) (dC (.int 0))) (d2 gIx (dVar 14) (dC (.int 1))))))
    (sSeq (sIf (bVal (d2 gNe (dCall F_book_weight (dCons (dVar 9) (dCons (dVar 10) (dCons (dVar 2) (dCons (dVar 4) (dCons (dVar 5) (dCons (dVar 12) dNil))))))) (dCall F__law_fraction (dCons (dVar 16) (dCons (dMul (d2 gIx (dVar 14) (dC (.int 1))) (d2 gIx (dVar 15) (dC (.int 1)))) dNil))))) (sRet (dC (.bl false))) sNx)
    (sSeq (sSet 17 (dCallIo F__law_take 1 (dCons (dC (.int 2000)) dNil)))
    (sSeq (sSet 18 (dCall F_most_grams (dCons (dVar 9) (dCons (dVar 10) (dCons (dVar 2) (dCons (dVar 17) dNil))))))
    (sSeq (sIf (bAnd (bVal (d2 gGt (dVar 18) (dC (.int 0)))) (bVal (d2 gGt (dMul (dMul (dMul (dVar 8) (dVar 9)) (dVar 10)) (dVar 18)) (dMul (dVar 17) (dC (.int 10000000000)))))) (sRet (dC (.bl false))) sNx)
    (sSeq (sIf (bVal (d2 gLe (dMul (dMul (dMul (dVar 8) (dVar 9)) (dVar 10)) (dAdd (dVar 18) (dC (.int 1)))) (dMul (dVar 17) (dC (.int 10000000000))))) (sRet (dC (.bl false))) sNx)
    (sSeq (sSet 19 (dCall F_nested (dCons (dN gLenN (dCons (d2 gIx (dVar 6) (dC (.int 0))) dNil)) (dCons (dC (.int 4)) dNil))))
    (sSeq (sSet 20 (dAdd (dC (.int 1)) (dCallIo F__law_take 1 (dCons (dC (.int 40)) dNil))))
    (sSeq (sIf (bOr (bVal (d2 gNe (dN gLenN (dCons (dVar 19) dNil)) (dN gLenN (dCons (d2 gIx (dVar 6) (dC (.int 0))) dNil)))) (bVal (d2 gNe (dCall F_creep (dCons (dN gLenN (dCons (dVar 19) dNil)) (dCons (dVar 20) dNil))) (dLc [28] (iR1 (dCons (dN gLenN (dCons (dVar 19) dNil)) dNil)) (gName 28) bYes E_law_2)))) (sRet (dC (.bl false))) sNx)
    (sSeq (sSet 21 (dAdd (dC (.int 4)) (dMul (dC (.int 2)) (dCallIo F__law_take 1 (dCons (dC (.int 3)) dNil)))))
    (sSeq (sSet 22 (dCall F_sewing (dCons (dN gLenN (dCons (dVar 6) dNil)) (dCons (dVar 21) dNil))))
    (sSeq (sIf (bOr (bVal (d2 (gIsBB true) (dCall F_judge_sewing (dCons (dN gLenN (dCons (dVar 6) dNil)) (dCons (dVar 21) (dCons (dVar 22) dNil)))) (dC (.bl true)))) (bVal (d2 (gIsBB true) (dCall F_judge_sewing (dCons (dN gLenN (dCons (dVar 6) dNil)) (dCons (dVar 21) (dCons (dSl gSl (dVar 22) (oSome (dC (.int 1))) oNone) dNil)))) (dC (.bl false))))) (sRet (dC (.bl false))) sNx)
    (sSeq (sIf (bVal (d2 gNe (dMul (dN gLenN (dCons (dLc [29] (iSeq (dVar 22)) (gName 29) T_law_3 E_law_3) dNil)) (dC (.int 2))) (dMul (dVar 21) (dN gLenN (dCons (dVar 6) dNil))))) (sRet (dC (.bl false))) sNx)
    (sSeq (sSet 23 (dN gLenN (dCons (dLc [29] (iSeq (dVar 22)) (gName 29) T_law_4 E_law_4) dNil)))
    (sSeq (sSet 24 (dN gLenN (dCons (dLc [29] (iSeq (dVar 22)) (gName 29) T_law_5 E_law_5) dNil)))
    (sSeq (sIf (bVal (d2 gNe (dTup (dCons (dVar 23) (dCons (dVar 24) dNil))) (dTup (dCons (dN gInt (dCons (d2 gGt (dN gLenN (dCons (dVar 6) dNil)) (dC (.int 1))) dNil)) (dCons (dN gMax2 (dCons (dSub (dN gLenN (dCons (dVar 6) dNil)) (dC (.int 2))) (dCons (dC (.int 0)) dNil))) dNil))))) (sRet (dC (.bl false))) sNx)
    (sSeq (sSet 25 (dLc [28] (iR1 (dCons (dVar 21) dNil)) (gName 28) bYes E_law_6))
    (sSeq (sSet 26 (dAdd (dMul (dN gLenN (dCons (dVar 6) dNil)) (dSub (d2 gIx (dVar 25) (dNeg (dC (.int 1)))) (d2 gIx (dVar 25) (dC (.int 0))))) (dMul (dSub (dN gLenN (dCons (dVar 6) dNil)) (dC (.int 1))) (dVar 20))))
    (sRet (d2 gEq (dCall F__law_plain (dCons (dCall F_thread_length (dCons (dN gLenN (dCons (dVar 6) dNil)) (dCons (dVar 20) (dCons (dVar 25) dNil)))) dNil)) (dCall F__law_plain (dCons (dVar 26) dNil))))))))))))))))))))))))))))))))))))))))))
def F_law : List PV → FR := runD false false 1 30 den_law
section
variable {P : Program} {w : World} {K : PySem.W.Frag} {mg : Str → Option Value} {base : Heap}
abbrev i_InvalidLength : Stmt := inClass (top 3) 0
theorem sc_i_InvalidLength : FnScope [("self" : Str), ("what" : Str)] [("self" : Str), ("what" : Str)] (defScope i_InvalidLength) := ⟨rfl, rfl, rfl, by decide +kernel, rfl, by decide +kernel, by decide +kernel⟩
theorem E_InvalidLength {fd : FuncData} (E : EcK K ("InvalidLength" : Str) "what") (hm : mg ("InvalidLength" : Str) = some (.ref (He.ga K ("InvalidLength" : Str)))) (T : PeK K "PressError") (hp : mg "PressError" = some (.ref (He.ga K "PressError"))) (F : FnP K "__init__" "InvalidLength.__init__" i_InvalidLength (He.ma K (He.ga K ("InvalidLength" : Str)) "__init__") fd) : Ec P w K mg base ("InvalidLength" : Str) "what" :=
  ec_ok (txt := ("invalid length: " : Str)) E hm F sc_i_InvalidLength (fun _ _ _ _ _ _ us hl => match us, hl with | [_, _], _ => rfl) (by decide) fun cdv A outer s H E =>
    pss_cons (ps_expr (pe_baseinit T rfl hp (pa_cons (pv 0) (pa_cons (pe_op op_add_str pe_str (pv 1)) pa_nil)))) (pss_one (ps_ost (pv 0) (pv 1)))
abbrev i_InvalidMarks : Stmt := inClass (top 5) 0
theorem sc_i_InvalidMarks : FnScope [("self" : Str), ("what" : Str)] [("self" : Str), ("what" : Str)] (defScope i_InvalidMarks) := ⟨rfl, rfl, rfl, by decide +kernel, rfl, by decide +kernel, by decide +kernel⟩
theorem E_InvalidMarks {fd : FuncData} (E : EcK K ("InvalidMarks" : Str) "what") (hm : mg ("InvalidMarks" : Str) = some (.ref (He.ga K ("InvalidMarks" : Str)))) (T : PeK K "PressError") (hp : mg "PressError" = some (.ref (He.ga K "PressError"))) (F : FnP K "__init__" "InvalidMarks.__init__" i_InvalidMarks (He.ma K (He.ga K ("InvalidMarks" : Str)) "__init__") fd) : Ec P w K mg base ("InvalidMarks" : Str) "what" :=
  ec_ok (txt := ("invalid marks: " : Str)) E hm F sc_i_InvalidMarks (fun _ _ _ _ _ _ us hl => match us, hl with | [_, _], _ => rfl) (by decide) fun cdv A outer s H E =>
    pss_cons (ps_expr (pe_baseinit T rfl hp (pa_cons (pv 0) (pa_cons (pe_op op_add_str pe_str (pv 1)) pa_nil)))) (pss_one (ps_ost (pv 0) (pv 1)))
abbrev i_InvalidSheet : Stmt := inClass (top 4) 0
theorem sc_i_InvalidSheet : FnScope [("self" : Str), ("what" : Str)] [("self" : Str), ("what" : Str)] (defScope i_InvalidSheet) := ⟨rfl, rfl, rfl, by decide +kernel, rfl, by decide +kernel, by decide +kernel⟩
theorem E_InvalidSheet {fd : FuncData} (E : EcK K ("InvalidSheet" : Str) "what") (hm : mg ("InvalidSheet" : Str) = some (.ref (He.ga K ("InvalidSheet" : Str)))) (T : PeK K "PressError") (hp : mg "PressError" = some (.ref (He.ga K "PressError"))) (F : FnP K "__init__" "InvalidSheet.__init__" i_InvalidSheet (He.ma K (He.ga K ("InvalidSheet" : Str)) "__init__") fd) : Ec P w K mg base ("InvalidSheet" : Str) "what" :=
  ec_ok (txt := ("invalid sheet: " : Str)) E hm F sc_i_InvalidSheet (fun _ _ _ _ _ _ us hl => match us, hl with | [_, _], _ => rfl) (by decide) fun cdv A outer s H E =>
    pss_cons (ps_expr (pe_baseinit T rfl hp (pa_cons (pv 0) (pa_cons (pe_op op_add_str pe_str (pv 1)) pa_nil)))) (pss_one (ps_ost (pv 0) (pv 1)))
abbrev i_TooMany : Stmt := inClass (top 6) 0
theorem sc_i_TooMany : FnScope [("self" : Str), ("what" : Str)] [("self" : Str), ("what" : Str)] (defScope i_TooMany) := ⟨rfl, rfl, rfl, by decide +kernel, rfl, by decide +kernel, by decide +kernel⟩
theorem E_TooMany {fd : FuncData} (E : EcK K ("TooMany" : Str) "what") (hm : mg ("TooMany" : Str) = some (.ref (He.ga K ("TooMany" : Str)))) (T : PeK K "PressError") (hp : mg "PressError" = some (.ref (He.ga K "PressError"))) (F : FnP K "__init__" "TooMany.__init__" i_TooMany (He.ma K (He.ga K ("TooMany" : Str)) "__init__") fd) : Ec P w K mg base ("TooMany" : Str) "what" :=
  ec_ok (txt := ("too many " : Str)) E hm F sc_i_TooMany (fun _ _ _ _ _ _ us hl => match us, hl with | [_, _], _ => rfl) (by decide) fun cdv A outer s H E =>
    pss_cons (ps_expr (pe_baseinit T rfl hp (pa_cons (pv 0) (pa_cons (pe_op op_add_str pe_str (pv 1)) pa_nil)))) (pss_one (ps_ost (pv 0) (pv 1)))
theorem sc__law_deck : FnScope [("script" : Str), ("cells" : Str), ("each" : Str), ("deck" : Str), ("seed" : Str), ("k" : Str), ("cell" : Str), ("rest" : Str), ("at" : Str)] [("script" : Str), ("cells" : Str), ("each" : Str)] (defScope s__law_deck) := ⟨rfl, rfl, rfl, by decide +kernel, rfl, by decide +kernel, by decide +kernel⟩
theorem G__law_deck {f : Addr} {fd : FuncData} (B : Bi mg) (F : FnP K ("_law_deck" : Str) ("_law_deck" : Str) s__law_deck f fd) (hm : mg ("_law_deck" : Str) = some (.ref f)) : Fd P w K mg base ("_law_deck" : Str) 1 false true 3 F__law_deck := by
  exact fd_okD (k := 0) F hm sc__law_deck (fun _ _ _ _ _ _ us hl => match us, hl with | [_, _, _], _ => rfl) (by decide) fun cdv A outer s H E c po =>
    (dss_cons (ds_setF c 3 (df_lst da_nil))
    (dss_cons (ds_set c 4 (de_add de_int (de_len B (da_cons (de_var 0) da_nil))))
    (dss_cons (ds_for po c (di_r1 B (da_cons (de_var 1) da_nil)) (dg_name c 5) (dss_cons (ds_set c 6 de_int)
    (dss_cons (ds_if (dt_cmp cr_lt (de_var 5) (de_len B (da_cons (de_var 0) da_nil))) (dss_one (ds_set c 6 (de_ix (de_var 0) (de_var 5)))) dss_nil)
    (dss_cons (ds_set c 7 (de_abs B (da_cons (de_var 6) da_nil)))
    (dss_one (ds_if (dt_cmp cr_ge (de_var 7) (de_pow de_int de_int)) (dss_one (ds_for po c (di_r1 B (da_cons (de_var 2) da_nil)) (dg_name c 8) (dss_cons (ds_expr (de_append 3 (pv 3) (da_cons (de_mod (de_toint B (da_cons (de_var 7) da_nil)) de_int) da_nil)))
    (dss_one (ds_set c 7 (de_fdiv (de_var 7) de_int)))))) (dss_cons (ds_set c 4 (de_mod (de_toint B (da_cons (de_add (de_add (de_add (de_mul (de_var 4) de_int) (de_mul de_int (de_var 7))) (de_toint B (da_cons (de_cmp cr_lt (de_var 6) de_int) da_nil))) (de_var 5)) da_nil)) de_int))
    (dss_one (ds_for po c (di_r1 B (da_cons (de_var 2) da_nil)) (dg_name c 8) (dss_cons (ds_set c 4 (de_mod (de_toint B (da_cons (de_add (de_add (de_mul (de_var 4) de_int) (de_var 8)) de_int) da_nil)) de_int))
    (dss_one (ds_expr (de_append 3 (pv 3) (da_cons (de_mod (de_toint B (da_cons (de_fdiv (de_var 4) de_int) da_nil)) de_int) da_nil))))))))))))))
    (dss_cons (ds_expr (de_reverse 3 (pv 3)))
    (dss_one (ds_retO 3 (pv 3)))))))
theorem sc_check_book : FnScope [("pages" : Str), ("most" : Str)] [("pages" : Str), ("most" : Str)] (defScope s_check_book) := ⟨rfl, rfl, rfl, by decide +kernel, rfl, by decide +kernel, by decide +kernel⟩
theorem G_check_book {f : Addr} {fd : FuncData} (B : Bi mg) (h_MOST_PAGES_sections : ∃ t, mg ("MOST_PAGES_sections" : Str) = some (.int (4000) t)) (E_InvalidSheet : Ec P w K mg base ("InvalidSheet" : Str) "what") (E_TooMany : Ec P w K mg base ("TooMany" : Str) "what") (F : FnP K ("check_book" : Str) ("check_book" : Str) s_check_book f fd) (hm : mg ("check_book" : Str) = some (.ref f)) : Fd P w K mg base ("check_book" : Str) 3 false false 2 F_check_book := by
  obtain ⟨t_MOST_PAGES_sections, h_MOST_PAGES_sections⟩ := h_MOST_PAGES_sections
  exact fd_okD (k := 2) F hm sc_check_book (fun _ _ _ _ _ _ us hl => match us, hl with | [_, _], _ => rfl) (by decide) fun cdv A outer s H E c po =>
    (dss_cons (ds_if (dt_cmp cr_lt (de_var 0) de_int) (dss_one (ds_raise E_InvalidSheet c de_str)) dss_nil)
    (dss_cons (ds_if (dt_cmp cr_lt (de_var 1) de_int) (dss_one (ds_raise E_InvalidSheet c de_str)) dss_nil)
    (dss_one (ds_if (dt_cmp cr_gt (de_var 0) (de_glob (v := .int (4000)) h_MOST_PAGES_sections ⟨t_MOST_PAGES_sections, rfl⟩ fun _ => .int _)) (dss_one (ds_raise E_TooMany c de_str)) dss_nil))))
theorem sc_section_from : FnScope [("first" : Str), ("sheets" : Str), ("last" : Str), ("at" : Str)] [("first" : Str), ("sheets" : Str)] (defScope s_section_from) := ⟨rfl, rfl, rfl, by decide +kernel, rfl, by decide +kernel, by decide +kernel⟩
theorem G_section_from {f : Addr} {fd : FuncData} (B : Bi mg) (F : FnP K ("section_from" : Str) ("section_from" : Str) s_section_from f fd) (hm : mg ("section_from" : Str) = some (.ref f)) : Fd P w K mg base ("section_from" : Str) 1 false false 2 F_section_from := by
  exact fd_okD (k := 0) F hm sc_section_from (fun _ _ _ _ _ _ us hl => match us, hl with | [_, _], _ => rfl) (by decide) fun cdv A outer s H E c po =>
    (dss_cons (ds_set c 2 (de_sub (de_add (de_var 0) (de_mul de_int (de_var 1))) de_int))
    (dss_one (ds_ret (DF.sh (df_lc [(("at" : Str), 3)] c (di_r1 B (da_cons (de_var 1) da_nil)) (lg_name 3) (fun _ _ _ _ _ => (dg_name c.blk 3)) (fun _ _ _ _ _ => dts_nil) (fun _ _ _ _ _ => (de_tup (da_cons (de_sub (de_var 2) (de_mul de_int (de_var 3))) (da_cons (de_add (de_var 0) (de_mul de_int (de_var 3))) (da_cons (de_add (de_add (de_var 0) (de_mul de_int (de_var 3))) de_int) (da_cons (de_sub (de_sub (de_var 2) (de_mul de_int (de_var 3))) de_int) da_nil)))))) (ok := blkOk_by (N := [("first" : Str), ("sheets" : Str), ("last" : Str), ("at" : Str)]) (sc := defScope s_section_from) (by decide +kernel)))))))
theorem sc_sections_for : FnScope [("pages" : Str), ("most" : Str), ("sheets" : Str), ("many" : Str), ("found" : Str), ("first" : Str), ("at" : Str), ("size" : Str)] [("pages" : Str), ("most" : Str)] (defScope s_sections_for) := ⟨rfl, rfl, rfl, by decide +kernel, rfl, by decide +kernel, by decide +kernel⟩
theorem G_sections_for {f : Addr} {fd : FuncData} (B : Bi mg) (G_check_book : Fd P w K mg base ("check_book" : Str) 3 false false 2 F_check_book) (G_section_from : Fd P w K mg base ("section_from" : Str) 1 false false 2 F_section_from) (F : FnP K ("sections_for" : Str) ("sections_for" : Str) s_sections_for f fd) (hm : mg ("sections_for" : Str) = some (.ref f)) : Fd P w K mg base ("sections_for" : Str) 4 false false 2 F_sections_for := by
  exact fd_okD (k := 3) F hm sc_sections_for (fun _ _ _ _ _ _ us hl => match us, hl with | [_, _], _ => rfl) (by decide) fun cdv A outer s H E c po =>
    (dss_cons (ds_expr (de_call G_check_book c (da_cons (de_var 0) (da_cons (de_var 1) da_nil))))
    (dss_cons (ds_set c 2 (de_neg (de_fdivW (de_neg (de_var 0)) de_int)))
    (dss_cons (ds_set c 3 (de_neg (de_fdivW (de_neg (de_var 2)) (de_var 1))))
    (dss_cons (ds_setF c 4 (df_lst da_nil))
    (dss_cons (ds_set c 5 de_int)
    (dss_cons (ds_for po c (di_r1 B (da_cons (de_var 3) da_nil)) (dg_name c 6) (dss_cons (ds_set c 7 (de_add (de_fdivW (de_var 2) (de_var 3)) (de_toint B (da_cons (de_cmp cr_lt (de_var 6) (de_mod (de_var 2) (de_var 3))) da_nil))))
    (dss_cons (ds_expr (de_append 4 (pv 4) (da_cons (de_call G_section_from c (da_cons (de_var 5) (da_cons (de_var 7) da_nil))) da_nil)))
    (dss_one (ds_set c 5 (de_add (de_var 5) (de_mul de_int (de_var 7))))))))
    (dss_one (ds_ret (de_var 4)))))))))
theorem sc_leaves_of : FnScope [("pages" : Str)] [("pages" : Str)] (defScope s_leaves_of) := ⟨rfl, rfl, rfl, by decide +kernel, rfl, by decide +kernel, by decide +kernel⟩
theorem G_leaves_of {f : Addr} {fd : FuncData} (B : Bi mg) (E_InvalidLength : Ec P w K mg base ("InvalidLength" : Str) "what") (F : FnP K ("leaves_of" : Str) ("leaves_of" : Str) s_leaves_of f fd) (hm : mg ("leaves_of" : Str) = some (.ref f)) : Fd P w K mg base ("leaves_of" : Str) 3 false false 1 F_leaves_of := by
  exact fd_okD (k := 2) F hm sc_leaves_of (fun _ _ _ _ _ _ us hl => match us, hl with | [_], _ => rfl) (by decide) fun cdv A outer s H E c po =>
    (dss_cons (ds_if (dt_cmp cr_lt (de_var 0) de_int) (dss_one (ds_raise E_InvalidLength c de_str)) dss_nil)
    (dss_one (ds_ret (de_fdivW (de_add (de_var 0) de_int) de_int))))
theorem sc_check_size : FnScope [("width" : Str), ("height" : Str)] [("width" : Str), ("height" : Str)] (defScope s_check_size) := ⟨rfl, rfl, rfl, by decide +kernel, rfl, by decide +kernel, by decide +kernel⟩
theorem G_check_size {f : Addr} {fd : FuncData} (B : Bi mg) (E_InvalidLength : Ec P w K mg base ("InvalidLength" : Str) "what") (F : FnP K ("check_size" : Str) ("check_size" : Str) s_check_size f fd) (hm : mg ("check_size" : Str) = some (.ref f)) : Fd P w K mg base ("check_size" : Str) 3 false false 2 F_check_size := by
  exact fd_okD (k := 2) F hm sc_check_size (fun _ _ _ _ _ _ us hl => match us, hl with | [_, _], _ => rfl) (by decide) fun cdv A outer s H E c po =>
    (dss_one (ds_if (dt_w (dw_or (dt_cmp cr_lt (de_var 0) de_int) (dw_or1 (dt_cmp cr_lt (de_var 1) de_int)))) (dss_one (ds_raise E_InvalidLength c de_str)) dss_nil))
theorem sc_check_grams : FnScope [("grams" : Str)] [("grams" : Str)] (defScope s_check_grams) := ⟨rfl, rfl, rfl, by decide +kernel, rfl, by decide +kernel, by decide +kernel⟩
theorem G_check_grams {f : Addr} {fd : FuncData} (B : Bi mg) (E_InvalidLength : Ec P w K mg base ("InvalidLength" : Str) "what") (F : FnP K ("check_grams" : Str) ("check_grams" : Str) s_check_grams f fd) (hm : mg ("check_grams" : Str) = some (.ref f)) : Fd P w K mg base ("check_grams" : Str) 3 false false 1 F_check_grams := by
  exact fd_okD (k := 2) F hm sc_check_grams (fun _ _ _ _ _ _ us hl => match us, hl with | [_], _ => rfl) (by decide) fun cdv A outer s H E c po =>
    (dss_one (ds_if (dt_cmp cr_lt (de_var 0) de_int) (dss_one (ds_raise E_InvalidLength c de_str)) dss_nil))
theorem sc_fraction : FnScope [("above" : Str), ("below" : Str), ("common" : Str)] [("above" : Str), ("below" : Str)] (defScope s_fraction) := ⟨rfl, rfl, rfl, by decide +kernel, rfl, by decide +kernel, by decide +kernel⟩
theorem G_fraction {f : Addr} {fd : FuncData} (B : Bi mg) (h_gcd : mg ("gcd" : Str) = some (.builtin "math.gcd")) (F : FnP K ("fraction" : Str) ("fraction" : Str) s_fraction f fd) (hm : mg ("fraction" : Str) = some (.ref f)) : Fd P w K mg base ("fraction" : Str) 1 false false 2 F_fraction := by
  exact fd_okD (k := 0) F hm sc_fraction (fun _ _ _ _ _ _ us hl => match us, hl with | [_, _], _ => rfl) (by decide) fun cdv A outer s H E c po =>
    (dss_cons (ds_set c 2 (de_gcd h_gcd (da_cons (de_var 0) (da_cons (de_var 1) da_nil))))
    (dss_cons (ds_if (dt_cmp cr_lt (de_var 1) de_int) (dss_one (ds_set c 2 (de_neg (de_var 2)))) dss_nil)
    (dss_one (ds_ret (de_tup (da_cons (de_fdivW (de_var 0) (de_var 2)) (da_cons (de_fdivW (de_var 1) (de_var 2)) da_nil)))))))
theorem sc_weight : FnScope [("width" : Str), ("height" : Str), ("grams" : Str), ("sheets" : Str)] [("width" : Str), ("height" : Str), ("grams" : Str), ("sheets" : Str)] (defScope s_weight) := ⟨rfl, rfl, rfl, by decide +kernel, rfl, by decide +kernel, by decide +kernel⟩
theorem G_weight {f : Addr} {fd : FuncData} (B : Bi mg) (h_SQUARE_METRE : ∃ t, mg ("SQUARE_METRE" : Str) = some (.int (10000000000) t)) (E_InvalidLength : Ec P w K mg base ("InvalidLength" : Str) "what") (G_check_size : Fd P w K mg base ("check_size" : Str) 3 false false 2 F_check_size) (G_check_grams : Fd P w K mg base ("check_grams" : Str) 3 false false 1 F_check_grams) (G_fraction : Fd P w K mg base ("fraction" : Str) 1 false false 2 F_fraction) (F : FnP K ("weight" : Str) ("weight" : Str) s_weight f fd) (hm : mg ("weight" : Str) = some (.ref f)) : Fd P w K mg base ("weight" : Str) 4 false false 4 F_weight := by
  obtain ⟨t_SQUARE_METRE, h_SQUARE_METRE⟩ := h_SQUARE_METRE
  exact fd_okD (k := 3) F hm sc_weight (fun _ _ _ _ _ _ us hl => match us, hl with | [_, _, _, _], _ => rfl) (by decide) fun cdv A outer s H E c po =>
    (dss_cons (ds_expr (de_call G_check_size c (da_cons (de_var 0) (da_cons (de_var 1) da_nil))))
    (dss_cons (ds_expr (de_call G_check_grams c (da_cons (de_var 2) da_nil)))
    (dss_cons (ds_if (dt_cmp cr_lt (de_var 3) de_int) (dss_one (ds_raise E_InvalidLength c de_str)) dss_nil)
    (dss_one (ds_ret (de_call G_fraction c (da_cons (de_mul (de_mul (de_mul (de_var 0) (de_var 1)) (de_var 2)) (de_var 3)) (da_cons (de_glob (v := .int (10000000000)) h_SQUARE_METRE ⟨t_SQUARE_METRE, rfl⟩ fun _ => .int _) da_nil))))))))
theorem sc__law_take : FnScope [("deck" : Str), ("many" : Str)] [("deck" : Str), ("many" : Str)] (defScope s__law_take) := ⟨rfl, rfl, rfl, by decide +kernel, rfl, by decide +kernel, by decide +kernel⟩
theorem G__law_take {f : Addr} {fd : FuncData} (B : Bi mg) (F : FnP K ("_law_take" : Str) ("_law_take" : Str) s__law_take f fd) (hm : mg ("_law_take" : Str) = some (.ref f)) : Fd P w K mg base ("_law_take" : Str) 1 true false 2 F__law_take := by
  exact fd_okD (k := 0) F hm sc__law_take (fun _ _ _ _ _ _ us hl => match us, hl with | [_, _], _ => rfl) (by decide) fun cdv A outer s H E c po =>
    (dss_cons (ds_if (dt_cmp (cr_eq c) (de_lenv B 0 (pv 0)) de_int) (dss_one (ds_ret de_int)) dss_nil)
    (dss_one (ds_ret (de_mod (de_toint B (da_cons (de_pop 0 (pv 0)) da_nil)) (de_var 1)))))
theorem sc_most_grams : FnScope [("width" : Str), ("height" : Str), ("pages" : Str), ("limit" : Str), ("leaves" : Str)] [("width" : Str), ("height" : Str), ("pages" : Str), ("limit" : Str)] (defScope s_most_grams) := ⟨rfl, rfl, rfl, by decide +kernel, rfl, by decide +kernel, by decide +kernel⟩
theorem G_most_grams {f : Addr} {fd : FuncData} (B : Bi mg) (h_SQUARE_METRE : ∃ t, mg ("SQUARE_METRE" : Str) = some (.int (10000000000) t)) (E_InvalidLength : Ec P w K mg base ("InvalidLength" : Str) "what") (G_leaves_of : Fd P w K mg base ("leaves_of" : Str) 3 false false 1 F_leaves_of) (G_check_size : Fd P w K mg base ("check_size" : Str) 3 false false 2 F_check_size) (F : FnP K ("most_grams" : Str) ("most_grams" : Str) s_most_grams f fd) (hm : mg ("most_grams" : Str) = some (.ref f)) : Fd P w K mg base ("most_grams" : Str) 4 false false 4 F_most_grams := by
  obtain ⟨t_SQUARE_METRE, h_SQUARE_METRE⟩ := h_SQUARE_METRE
  exact fd_okD (k := 3) F hm sc_most_grams (fun _ _ _ _ _ _ us hl => match us, hl with | [_, _, _, _], _ => rfl) (by decide) fun cdv A outer s H E c po =>
    (dss_cons (ds_expr (de_call G_check_size c (da_cons (de_var 0) (da_cons (de_var 1) da_nil))))
    (dss_cons (ds_set c 4 (de_call G_leaves_of c (da_cons (de_var 2) da_nil)))
    (dss_cons (ds_if (dt_cmp cr_lt (de_var 3) de_int) (dss_one (ds_raise E_InvalidLength c de_str)) dss_nil)
    (dss_one (ds_ret (de_fdivW (de_mul (de_var 3) (de_glob (v := .int (10000000000)) h_SQUARE_METRE ⟨t_SQUARE_METRE, rfl⟩ fun _ => .int _)) (de_mul (de_mul (de_var 4) (de_var 0)) (de_var 1))))))))
theorem sc_check_sheets : FnScope [("sheets" : Str), ("pages" : Str)] [("sheets" : Str), ("pages" : Str)] (defScope s_check_sheets) := ⟨rfl, rfl, rfl, by decide +kernel, rfl, by decide +kernel, by decide +kernel⟩
theorem G_check_sheets {f : Addr} {fd : FuncData} (B : Bi mg) (h_MOST_PAGES_sheets : ∃ t, mg ("MOST_PAGES_sheets" : Str) = some (.int (10000) t)) (E_InvalidSheet : Ec P w K mg base ("InvalidSheet" : Str) "what") (E_TooMany : Ec P w K mg base ("TooMany" : Str) "what") (F : FnP K ("check_sheets" : Str) ("check_sheets" : Str) s_check_sheets f fd) (hm : mg ("check_sheets" : Str) = some (.ref f)) : Fd P w K mg base ("check_sheets" : Str) 3 false false 2 F_check_sheets := by
  obtain ⟨t_MOST_PAGES_sheets, h_MOST_PAGES_sheets⟩ := h_MOST_PAGES_sheets
  exact fd_okD (k := 2) F hm sc_check_sheets (fun _ _ _ _ _ _ us hl => match us, hl with | [_, _], _ => rfl) (by decide) fun cdv A outer s H E c po =>
    (dss_cons (ds_if (dt_cmp cr_lt (de_var 0) de_int) (dss_one (ds_raise E_InvalidSheet c de_str)) dss_nil)
    (dss_cons (ds_if (dt_w (dw_or (dt_cmp cr_lt (de_var 1) de_int) (dw_or1 (dt_cmp (cr_ne c) (de_mod (de_var 1) de_int) de_int)))) (dss_one (ds_raise E_InvalidSheet c de_str)) dss_nil)
    (dss_one (ds_if (dt_cmp cr_gt (de_mul (de_var 0) (de_var 1)) (de_glob (v := .int (10000)) h_MOST_PAGES_sheets ⟨t_MOST_PAGES_sheets, rfl⟩ fun _ => .int _)) (dss_one (ds_raise E_TooMany c de_str)) dss_nil))))
theorem sc_nested : FnScope [("sheets" : Str), ("pages" : Str), ("half" : Str), ("whole" : Str), ("found" : Str), ("sheet" : Str), ("first" : Str)] [("sheets" : Str), ("pages" : Str)] (defScope s_nested) := ⟨rfl, rfl, rfl, by decide +kernel, rfl, by decide +kernel, by decide +kernel⟩
theorem G_nested {f : Addr} {fd : FuncData} (B : Bi mg) (G_check_sheets : Fd P w K mg base ("check_sheets" : Str) 3 false false 2 F_check_sheets) (F : FnP K ("nested" : Str) ("nested" : Str) s_nested f fd) (hm : mg ("nested" : Str) = some (.ref f)) : Fd P w K mg base ("nested" : Str) 4 false false 2 F_nested := by
  exact fd_okD (k := 3) F hm sc_nested (fun _ _ _ _ _ _ us hl => match us, hl with | [_, _], _ => rfl) (by decide) fun cdv A outer s H E c po =>
    (dss_cons (ds_expr (de_call G_check_sheets c (da_cons (de_var 0) (da_cons (de_var 1) da_nil))))
    (dss_cons (ds_set c 2 (de_fdivW (de_var 1) de_int))
    (dss_cons (ds_set c 3 (de_mul (de_var 0) (de_var 1)))
    (dss_cons (ds_setF c 4 (df_lst da_nil))
    (dss_cons (ds_for po c (di_r1 B (da_cons (de_var 0) da_nil)) (dg_name c 5) (dss_cons (ds_set c 6 (DF.sh (df_lr2 c B (de_add (de_mul (de_var 5) (de_var 2)) de_int) (de_add (de_mul (de_add (de_var 5) de_int) (de_var 2)) de_int))))
    (dss_one (ds_expr (de_append 4 (pv 4) (da_cons (de_add (de_var 6) (DF.sh (df_lr2 c B (de_add (de_sub (de_var 3) (de_mul (de_add (de_var 5) de_int) (de_var 2))) de_int) (de_add (de_sub (de_var 3) (de_mul (de_var 5) (de_var 2))) de_int)))) da_nil))))))
    (dss_one (ds_ret (de_var 4))))))))
theorem sc_check_sewing : FnScope [("sections" : Str), ("stations" : Str)] [("sections" : Str), ("stations" : Str)] (defScope s_check_sewing) := ⟨rfl, rfl, rfl, by decide +kernel, rfl, by decide +kernel, by decide +kernel⟩
theorem G_check_sewing {f : Addr} {fd : FuncData} (B : Bi mg) (h_MOST_SECTIONS : ∃ t, mg ("MOST_SECTIONS" : Str) = some (.int (500) t)) (h_MOST_STATIONS : ∃ t, mg ("MOST_STATIONS" : Str) = some (.int (100) t)) (E_InvalidMarks : Ec P w K mg base ("InvalidMarks" : Str) "what") (E_TooMany : Ec P w K mg base ("TooMany" : Str) "what") (F : FnP K ("check_sewing" : Str) ("check_sewing" : Str) s_check_sewing f fd) (hm : mg ("check_sewing" : Str) = some (.ref f)) : Fd P w K mg base ("check_sewing" : Str) 3 false false 2 F_check_sewing := by
  obtain ⟨t_MOST_SECTIONS, h_MOST_SECTIONS⟩ := h_MOST_SECTIONS
  obtain ⟨t_MOST_STATIONS, h_MOST_STATIONS⟩ := h_MOST_STATIONS
  exact fd_okD (k := 2) F hm sc_check_sewing (fun _ _ _ _ _ _ us hl => match us, hl with | [_, _], _ => rfl) (by decide) fun cdv A outer s H E c po =>
    (dss_cons (ds_if (dt_cmp cr_lt (de_var 0) de_int) (dss_one (ds_raise E_InvalidMarks c de_str)) dss_nil)
    (dss_cons (ds_if (dt_w (dw_or (dt_cmp (cr_eq c) (de_mod (de_var 1) de_int) de_int) (dw_or1 (dt_cmp cr_lt (de_var 1) de_int)))) (dss_one (ds_raise E_InvalidMarks c de_str)) dss_nil)
    (dss_one (ds_if (dt_w (dw_or (dt_cmp cr_gt (de_var 0) (de_glob (v := .int (500)) h_MOST_SECTIONS ⟨t_MOST_SECTIONS, rfl⟩ fun _ => .int _)) (dw_or1 (dt_cmp cr_gt (de_var 1) (de_glob (v := .int (100)) h_MOST_STATIONS ⟨t_MOST_STATIONS, rfl⟩ fun _ => .int _))))) (dss_one (ds_raise E_TooMany c de_str)) dss_nil))))
theorem sc_sewing : FnScope [("sections" : Str), ("stations" : Str), ("found" : Str), ("section" : Str), ("way" : Str), ("at" : Str), ("station" : Str)] [("sections" : Str), ("stations" : Str)] (defScope s_sewing) := ⟨rfl, rfl, rfl, by decide +kernel, rfl, by decide +kernel, by decide +kernel⟩
theorem G_sewing {f : Addr} {fd : FuncData} (B : Bi mg) (G_check_sewing : Fd P w K mg base ("check_sewing" : Str) 3 false false 2 F_check_sewing) (F : FnP K ("sewing" : Str) ("sewing" : Str) s_sewing f fd) (hm : mg ("sewing" : Str) = some (.ref f)) : Fd P w K mg base ("sewing" : Str) 4 false false 2 F_sewing := by
  exact fd_okD (k := 3) F hm sc_sewing (fun _ _ _ _ _ _ us hl => match us, hl with | [_, _], _ => rfl) (by decide) fun cdv A outer s H E c po =>
    (dss_cons (ds_expr (de_call G_check_sewing c (da_cons (de_var 0) (da_cons (de_var 1) da_nil))))
    (dss_cons (ds_setF c 2 (df_lst da_nil))
    (dss_cons (ds_for po c (di_r1 B (da_cons (de_var 0) da_nil)) (dg_name c 3) (dss_cons (ds_set c 4 (DF.sh (df_lr2 c B de_int (de_add (de_var 1) de_int))))
    (dss_cons (ds_if (dt_cmp (cr_eq c) (de_mod (de_var 3) de_int) de_int) (dss_one (ds_set c 4 (DF.sh (df_revL (de_var 4))))) dss_nil)
    (dss_cons (ds_for po c (di_enum B (da_cons (de_var 4) da_nil)) (dg_tup c (dgs_cons (dg_name c 5) (dgs_cons (dg_name c 6) dgs_nil))) (dss_one (ds_expr (de_append 2 (pv 2) (da_cons (de_tup (da_cons (de_ix (DF.sh (df_lst (da_cons de_str (da_cons de_str da_nil)))) (de_mod (de_var 5) de_int)) (da_cons (de_var 3) (da_cons (de_var 6) da_nil)))) da_nil)))))
    (dss_cons (ds_if (dt_cmp (cr_eq c) (de_var 3) de_int) (dss_one (ds_expr (de_append 2 (pv 2) (da_cons (de_tup (da_cons de_str (da_cons (de_var 3) (da_cons (de_ix (de_var 4) (de_neg de_int)) da_nil)))) da_nil)))) dss_nil)
    (dss_one (ds_if (dt_cmp cr_gt (de_var 3) de_int) (dss_one (ds_expr (de_append 2 (pv 2) (da_cons (de_tup (da_cons de_str (da_cons (de_var 3) (da_cons (de_ix (de_var 4) (de_neg de_int)) da_nil)))) da_nil)))) dss_nil)))))))
    (dss_one (ds_ret (de_var 2))))))
theorem sc__law_plain : FnScope [("value" : Str), ("item" : Str)] [("value" : Str)] (defScope s__law_plain) := ⟨rfl, rfl, rfl, by decide +kernel, rfl, by decide +kernel, by decide +kernel⟩
theorem G__law_plain {f : Addr} {fd : FuncData} (B : Bi mg) (F : FnP K ("_law_plain" : Str) ("_law_plain" : Str) s__law_plain f fd) (hm : mg ("_law_plain" : Str) = some (.ref f)) : ∀ n : Nat, Fd P w K mg base ("_law_plain" : Str) (n + 1) false false 1 (F__law_plain_ n)
  | 0 => fd_okD (k := 0) F hm sc__law_plain (fun _ _ _ _ _ _ us hl => match us, hl with | [_], _ => rfl) (by decide) fun cdv A outer s H E c po => dss_bad
  | n + 1 => by
    have G__law_plain := G__law_plain B F hm n
    exact fd_okD (k := n + 1) F hm sc__law_plain (fun _ _ _ _ _ _ us hl => match us, hl with | [_], _ => rfl) (by decide) fun cdv A outer s H E c po =>
    (dss_cons (ds_if (dt_tru (de_isi2 "tuple" "list" B (de_var 0) B.tuple (by decide +kernel) B.list (by decide +kernel))) (dss_one (ds_ret (de_add (DF.sh (df_lst (da_cons (de_isi "list" B (de_var 0) B.list (by decide +kernel)) da_nil))) (DF.sh (df_lc [(("item" : Str), 1)] c (di_seq (de_var 0)) (lg_name 1) (fun _ _ _ _ _ => (dg_name c.blk 1)) (fun _ _ _ _ _ => dts_nil) (fun _ _ _ _ _ => (de_call G__law_plain c.blk (da_cons (de_var 1) da_nil) (hj := Nat.le_refl (n + 1)))) (ok := blkOk_by (N := [("value" : Str), ("item" : Str)]) (sc := defScope s__law_plain) (by decide +kernel))))))) dss_nil)
    (dss_cons (ds_if (dt_w (dw_or (dt_cmp cr_is (de_var 0) de_non) (dw_or1 (dt_tru (de_isi "bool" B (de_var 0) B.bool (by decide +kernel)))))) (dss_one (ds_ret (de_ix (DF.sh (df_lst (da_cons de_str (da_cons de_str (da_cons de_str da_nil))))) (de_add (de_toint B (da_cons (de_cmp cr_isNot (de_var 0) de_non) da_nil)) (de_toint B (da_cons (de_cmp cr_isB (de_var 0) de_bl) da_nil)))))) dss_nil)
    (dss_cons (ds_if (dt_tru (de_isi2 "int" "str" B (de_var 0) B.int (by decide +kernel) B.str (by decide +kernel))) (dss_one (ds_ret (DF.sh (df_lst (da_cons (de_isi "str" B (de_var 0) B.str (by decide +kernel)) (da_cons (de_var 0) da_nil)))))) dss_nil)
    (dss_one (ds_ret de_str)))))
theorem sc_thickness : FnScope [("grams" : Str), ("bulk" : Str), ("leaves" : Str)] [("grams" : Str), ("bulk" : Str), ("leaves" : Str)] (defScope s_thickness) := ⟨rfl, rfl, rfl, by decide +kernel, rfl, by decide +kernel, by decide +kernel⟩
theorem G_thickness {f : Addr} {fd : FuncData} (B : Bi mg) (E_InvalidLength : Ec P w K mg base ("InvalidLength" : Str) "what") (G_check_grams : Fd P w K mg base ("check_grams" : Str) 3 false false 1 F_check_grams) (G_fraction : Fd P w K mg base ("fraction" : Str) 1 false false 2 F_fraction) (F : FnP K ("thickness" : Str) ("thickness" : Str) s_thickness f fd) (hm : mg ("thickness" : Str) = some (.ref f)) : Fd P w K mg base ("thickness" : Str) 4 false false 3 F_thickness := by
  exact fd_okD (k := 3) F hm sc_thickness (fun _ _ _ _ _ _ us hl => match us, hl with | [_, _, _], _ => rfl) (by decide) fun cdv A outer s H E c po =>
    (dss_cons (ds_expr (de_call G_check_grams c (da_cons (de_var 0) da_nil)))
    (dss_cons (ds_if (dt_cmp cr_lt (de_var 1) de_int) (dss_one (ds_raise E_InvalidLength c de_str)) dss_nil)
    (dss_cons (ds_if (dt_cmp cr_lt (de_var 2) de_int) (dss_one (ds_raise E_InvalidLength c de_str)) dss_nil)
    (dss_one (ds_ret (de_call G_fraction c (da_cons (de_mul (de_mul (de_var 0) (de_var 1)) (de_var 2)) (da_cons de_int da_nil))))))))
theorem sc_spine : FnScope [("pages" : Str), ("grams" : Str), ("bulk" : Str), ("leaves" : Str), ("above" : Str), ("below" : Str)] [("pages" : Str), ("grams" : Str), ("bulk" : Str)] (defScope s_spine) := ⟨rfl, rfl, rfl, by decide +kernel, rfl, by decide +kernel, by decide +kernel⟩
theorem G_spine {f : Addr} {fd : FuncData} (B : Bi mg) (G_leaves_of : Fd P w K mg base ("leaves_of" : Str) 3 false false 1 F_leaves_of) (G_thickness : Fd P w K mg base ("thickness" : Str) 4 false false 3 F_thickness) (F : FnP K ("spine" : Str) ("spine" : Str) s_spine f fd) (hm : mg ("spine" : Str) = some (.ref f)) : Fd P w K mg base ("spine" : Str) 5 false false 3 F_spine := by
  exact fd_okD (k := 4) F hm sc_spine (fun _ _ _ _ _ _ us hl => match us, hl with | [_, _, _], _ => rfl) (by decide) fun cdv A outer s H E c po =>
    (dss_cons (ds_set c 3 (de_call G_leaves_of c (da_cons (de_var 0) da_nil)))
    (dss_cons (ds_asg (de_call G_thickness c (da_cons (de_var 1) (da_cons (de_var 2) (da_cons (de_var 3) da_nil)))) (dg_tup c (dgs_cons (dg_name c 4) (dgs_cons (dg_name c 5) dgs_nil))))
    (dss_one (ds_ret (de_neg (de_fdivW (de_neg (de_var 4)) (de_var 5)))))))
theorem sc_book_weight : FnScope [("width" : Str), ("height" : Str), ("pages" : Str), ("grams" : Str), ("bulk" : Str), ("cover" : Str), ("back" : Str), ("inner" : Str)] [("width" : Str), ("height" : Str), ("pages" : Str), ("grams" : Str), ("bulk" : Str), ("cover" : Str)] (defScope s_book_weight) := ⟨rfl, rfl, rfl, by decide +kernel, rfl, by decide +kernel, by decide +kernel⟩
theorem G_book_weight {f : Addr} {fd : FuncData} (B : Bi mg) (h_SQUARE_METRE : ∃ t, mg ("SQUARE_METRE" : Str) = some (.int (10000000000) t)) (G_leaves_of : Fd P w K mg base ("leaves_of" : Str) 3 false false 1 F_leaves_of) (G_check_size : Fd P w K mg base ("check_size" : Str) 3 false false 2 F_check_size) (G_check_grams : Fd P w K mg base ("check_grams" : Str) 3 false false 1 F_check_grams) (G_fraction : Fd P w K mg base ("fraction" : Str) 1 false false 2 F_fraction) (G_spine : Fd P w K mg base ("spine" : Str) 5 false false 3 F_spine) (F : FnP K ("book_weight" : Str) ("book_weight" : Str) s_book_weight f fd) (hm : mg ("book_weight" : Str) = some (.ref f)) : Fd P w K mg base ("book_weight" : Str) 6 false false 6 F_book_weight := by
  obtain ⟨t_SQUARE_METRE, h_SQUARE_METRE⟩ := h_SQUARE_METRE
  exact fd_okD (k := 5) F hm sc_book_weight (fun _ _ _ _ _ _ us hl => match us, hl with | [_, _, _, _, _, _], _ => rfl) (by decide) fun cdv A outer s H E c po =>
    (dss_cons (ds_expr (de_call G_check_size c (da_cons (de_var 0) (da_cons (de_var 1) da_nil))))
    (dss_cons (ds_set c 6 (de_call G_spine c (da_cons (de_var 2) (da_cons (de_var 3) (da_cons (de_var 4) da_nil)))))
    (dss_cons (ds_expr (de_call G_check_grams c (da_cons (de_var 5) da_nil)))
    (dss_cons (ds_set c 7 (de_mul (de_mul (de_mul (de_call G_leaves_of c (da_cons (de_var 2) da_nil)) (de_var 0)) (de_var 1)) (de_var 3)))
    (dss_one (ds_ret (de_call G_fraction c (da_cons (de_add (de_var 7) (de_mul (de_mul (de_add (de_mul de_int (de_var 0)) (de_var 6)) (de_var 1)) (de_var 5))) (da_cons (de_glob (v := .int (10000000000)) h_SQUARE_METRE ⟨t_SQUARE_METRE, rfl⟩ fun _ => .int _) da_nil)))))))))
theorem sc__law_divisor : FnScope [("one" : Str), ("two" : Str)] [("one" : Str), ("two" : Str)] (defScope s__law_divisor) := ⟨rfl, rfl, rfl, by decide +kernel, rfl, by decide +kernel, by decide +kernel⟩
theorem G__law_divisor {f : Addr} {fd : FuncData} (B : Bi mg) (F : FnP K ("_law_divisor" : Str) ("_law_divisor" : Str) s__law_divisor f fd) (hm : mg ("_law_divisor" : Str) = some (.ref f)) : Fd P w K mg base ("_law_divisor" : Str) 1 false false 2 F__law_divisor := by
  exact fd_okD (k := 0) F hm sc__law_divisor (fun _ _ _ _ _ _ us hl => match us, hl with | [_, _], _ => rfl) (by decide) fun cdv A outer s H E c po =>
    (dss_cons (ds_while (muI 1) po (dt_cmp (cr_ne c) (de_var 1) de_int) (dss_one (ds_par c 0 1 (da_cons (de_var 1) (da_cons (de_mod (de_toint B (da_cons (de_var 0) da_nil)) (de_var 1)) da_nil)))))
    (dss_one (ds_ret (de_abs B (da_cons (de_var 0) da_nil)))))
theorem sc__law_fraction : FnScope [("above" : Str), ("below" : Str), ("factor" : Str)] [("above" : Str), ("below" : Str)] (defScope s__law_fraction) := ⟨rfl, rfl, rfl, by decide +kernel, rfl, by decide +kernel, by decide +kernel⟩
theorem G__law_fraction {f : Addr} {fd : FuncData} (B : Bi mg) (G__law_divisor : Fd P w K mg base ("_law_divisor" : Str) 1 false false 2 F__law_divisor) (F : FnP K ("_law_fraction" : Str) ("_law_fraction" : Str) s__law_fraction f fd) (hm : mg ("_law_fraction" : Str) = some (.ref f)) : Fd P w K mg base ("_law_fraction" : Str) 2 false false 2 F__law_fraction := by
  exact fd_okD (k := 1) F hm sc__law_fraction (fun _ _ _ _ _ _ us hl => match us, hl with | [_, _], _ => rfl) (by decide) fun cdv A outer s H E c po =>
    (dss_cons (ds_set c 2 (de_call G__law_divisor c (da_cons (de_var 0) (da_cons (de_var 1) da_nil))))
    (dss_one (ds_ret (de_tup (da_cons (de_fdivW (de_var 0) (de_var 2)) (da_cons (de_fdivW (de_var 1) (de_var 2)) da_nil))))))
theorem sc_creep : FnScope [("sheets" : Str), ("thickness" : Str), ("sheet" : Str)] [("sheets" : Str), ("thickness" : Str)] (defScope s_creep) := ⟨rfl, rfl, rfl, by decide +kernel, rfl, by decide +kernel, by decide +kernel⟩
theorem G_creep {f : Addr} {fd : FuncData} (B : Bi mg) (E_InvalidLength : Ec P w K mg base ("InvalidLength" : Str) "what") (E_InvalidSheet : Ec P w K mg base ("InvalidSheet" : Str) "what") (F : FnP K ("creep" : Str) ("creep" : Str) s_creep f fd) (hm : mg ("creep" : Str) = some (.ref f)) : Fd P w K mg base ("creep" : Str) 3 false false 2 F_creep := by
  exact fd_okD (k := 2) F hm sc_creep (fun _ _ _ _ _ _ us hl => match us, hl with | [_, _], _ => rfl) (by decide) fun cdv A outer s H E c po =>
    (dss_cons (ds_if (dt_cmp cr_lt (de_var 0) de_int) (dss_one (ds_raise E_InvalidSheet c de_str)) dss_nil)
    (dss_cons (ds_if (dt_cmp cr_lt (de_var 1) de_int) (dss_one (ds_raise E_InvalidLength c de_str)) dss_nil)
    (dss_one (ds_ret (DF.sh (df_lc [(("sheet" : Str), 2)] c (di_r1 B (da_cons (de_var 0) da_nil)) (lg_name 2) (fun _ _ _ _ _ => (dg_name c.blk 2)) (fun _ _ _ _ _ => dts_nil) (fun _ _ _ _ _ => (de_mul (de_var 2) (de_var 1))) (ok := blkOk_by (N := [("sheets" : Str), ("thickness" : Str), ("sheet" : Str)]) (sc := defScope s_creep) (by decide +kernel))))))))
theorem sc_judge_sewing : FnScope [("sections" : Str), ("stations" : Str), ("way" : Str), ("step" : Str)] [("sections" : Str), ("stations" : Str), ("way" : Str)] (defScope s_judge_sewing) := ⟨rfl, rfl, rfl, by decide +kernel, rfl, by decide +kernel, by decide +kernel⟩
theorem G_judge_sewing {f : Addr} {fd : FuncData} (B : Bi mg) (G_check_sewing : Fd P w K mg base ("check_sewing" : Str) 3 false false 2 F_check_sewing) (G_sewing : Fd P w K mg base ("sewing" : Str) 4 false false 2 F_sewing) (F : FnP K ("judge_sewing" : Str) ("judge_sewing" : Str) s_judge_sewing f fd) (hm : mg ("judge_sewing" : Str) = some (.ref f)) : Fd P w K mg base ("judge_sewing" : Str) 5 false false 3 F_judge_sewing := by
  exact fd_okD (k := 4) F hm sc_judge_sewing (fun _ _ _ _ _ _ us hl => match us, hl with | [_, _, _], _ => rfl) (by decide) fun cdv A outer s H E c po =>
    (dss_cons (ds_expr (de_call G_check_sewing c (da_cons (de_var 0) (da_cons (de_var 1) da_nil))))
    (dss_one (ds_ret (de_cmp (cr_eq c) (DF.sh (df_lc [(("step" : Str), 3)] c (di_seq (de_var 2)) (lg_name 3) (fun _ _ _ _ _ => (dg_name c.blk 3)) (fun _ _ _ _ _ => dts_nil) (fun _ _ _ _ _ => (de_tupOf B (da_cons (de_var 3) da_nil))) (ok := blkOk_by (N := [("sections" : Str), ("stations" : Str), ("way" : Str), ("step" : Str)]) (sc := defScope s_judge_sewing) (by decide +kernel)))) (de_call G_sewing c (da_cons (de_var 0) (da_cons (de_var 1) da_nil)))))))
theorem sc_thread_length : FnScope [("sections" : Str), ("thickness" : Str), ("places" : Str)] [("sections" : Str), ("thickness" : Str), ("places" : Str)] (defScope s_thread_length) := ⟨rfl, rfl, rfl, by decide +kernel, rfl, by decide +kernel, by decide +kernel⟩
theorem G_thread_length {f : Addr} {fd : FuncData} (B : Bi mg) (E_InvalidMarks : Ec P w K mg base ("InvalidMarks" : Str) "what") (F : FnP K ("thread_length" : Str) ("thread_length" : Str) s_thread_length f fd) (hm : mg ("thread_length" : Str) = some (.ref f)) : Fd P w K mg base ("thread_length" : Str) 3 false false 3 F_thread_length := by
  exact fd_okD (k := 2) F hm sc_thread_length (fun _ _ _ _ _ _ us hl => match us, hl with | [_, _, _], _ => rfl) (by decide) fun cdv A outer s H E c po =>
    (dss_cons (ds_if (dt_cmp cr_lt (de_var 0) de_int) (dss_one (ds_raise E_InvalidMarks c de_str)) dss_nil)
    (dss_cons (ds_if (dt_cmp cr_lt (de_var 1) de_int) (dss_one (ds_raise E_InvalidMarks c de_str)) dss_nil)
    (dss_cons (ds_if (dt_w (dw_or (dt_cmp cr_lt (de_len B (da_cons (de_var 2) da_nil)) de_int) (dw_or (dt_cmp (cr_eq c) (de_mod (de_len B (da_cons (de_var 2) da_nil)) de_int) de_int) (dw_or1 (dt_cmp (cr_ne c) (DF.sh (df_listOf B (da_cons (de_var 2) da_nil))) (DF.sh (df_sortSet c B (de_var 2)))))))) (dss_one (ds_raise E_InvalidMarks c de_str)) dss_nil)
    (dss_one (ds_ret (de_add (de_mul (de_var 0) (de_sub (de_ix (de_var 2) (de_neg de_int)) (de_ix (de_var 2) de_int))) (de_mul (de_sub (de_var 0) de_int) (de_var 1))))))))
theorem sc_law : FnScope [("script" : Str), ("deck" : Str), ("pages" : Str), ("most" : Str), ("grams" : Str), ("bulk" : Str), ("book" : Str), ("sheets" : Str), ("leaves" : Str), ("width" : Str), ("high" : Str), ("one" : Str), ("cover" : Str), ("wide" : Str), ("inner" : Str), ("outer" : Str), ("above" : Str), ("limit" : Str), ("great" : Str), ("row" : Str), ("thick" : Str), ("stations" : Str), ("way" : Str), ("knots" : Str), ("links" : Str), ("places" : Str), ("due" : Str), ("section" : Str), ("at" : Str), ("step" : Str)] [("script" : Str)] (defScope s_law) := ⟨rfl, rfl, rfl, by decide +kernel, rfl, by decide +kernel, by decide +kernel⟩
theorem G_law {f : Addr} {fd : FuncData} (B : Bi mg) (G__law_deck : Fd P w K mg base ("_law_deck" : Str) 1 false true 3 F__law_deck) (G_sections_for : Fd P w K mg base ("sections_for" : Str) 4 false false 2 F_sections_for) (G_leaves_of : Fd P w K mg base ("leaves_of" : Str) 3 false false 1 F_leaves_of) (G_weight : Fd P w K mg base ("weight" : Str) 4 false false 4 F_weight) (G__law_take : Fd P w K mg base ("_law_take" : Str) 1 true false 2 F__law_take) (G_most_grams : Fd P w K mg base ("most_grams" : Str) 4 false false 4 F_most_grams) (G_nested : Fd P w K mg base ("nested" : Str) 4 false false 2 F_nested) (G_sewing : Fd P w K mg base ("sewing" : Str) 4 false false 2 F_sewing) (G__law_plain : Fd P w K mg base ("_law_plain" : Str) 4 false false 1 F__law_plain) (G_thickness : Fd P w K mg base ("thickness" : Str) 4 false false 3 F_thickness) (G_spine : Fd P w K mg base ("spine" : Str) 5 false false 3 F_spine) (G_book_weight : Fd P w K mg base ("book_weight" : Str) 6 false false 6 F_book_weight) (G__law_fraction : Fd P w K mg base ("_law_fraction" : Str) 2 false false 2 F__law_fraction) (G_creep : Fd P w K mg base ("creep" : Str) 3 false false 2 F_creep) (G_judge_sewing : Fd P w K mg base ("judge_sewing" : Str) 5 false false 3 F_judge_sewing) (G_thread_length : Fd P w K mg base ("thread_length" : Str) 3 false false 3 F_thread_length) (F : FnP K ("law" : Str) ("law" : Str) s_law f fd) (hm : mg ("law" : Str) = some (.ref f)) : FnOk P w K mg base (L2.CX P w) 7 f fd [("script" : Str)] (spD K mg false false 1 F_law) := by
  exact fn_okD (k := 6) F sc_law (by decide) fun cdv A outer s H E c po =>
    (dss_cons (ds_setF c 1 (df_call G__law_deck c (da_cons (de_var 0) (da_cons de_int (da_cons de_int da_nil)))))
    (dss_cons (ds_set c 2 (de_add de_int (de_callIo G__law_take c 1 (pv 1) (da_cons de_int da_nil))))
    (dss_cons (ds_set c 3 (de_add de_int (de_callIo G__law_take c 1 (pv 1) (da_cons de_int da_nil))))
    (dss_cons (ds_set c 4 (de_add de_int (de_callIo G__law_take c 1 (pv 1) (da_cons de_int da_nil))))
    (dss_cons (ds_set c 5 (de_add de_int (de_callIo G__law_take c 1 (pv 1) (da_cons de_int da_nil))))
    (dss_cons (ds_set c 6 (de_call G_sections_for c (da_cons (de_var 2) (da_cons (de_var 3) da_nil))))
    (dss_cons (ds_set c 7 (de_sum c B (da_cons (DF.sh (df_lc [(("section" : Str), 27)] c (di_seq (de_var 6)) (lg_name 27) (fun _ _ _ _ _ => (dg_name c.blk 27)) (fun _ _ _ _ _ => dts_nil) (fun _ _ _ _ _ => (de_len B (da_cons (de_var 27) da_nil))) (ok := blkOk_by (N := [("script" : Str), ("deck" : Str), ("pages" : Str), ("most" : Str), ("grams" : Str), ("bulk" : Str), ("book" : Str), ("sheets" : Str), ("leaves" : Str), ("width" : Str), ("high" : Str), ("one" : Str), ("cover" : Str), ("wide" : Str), ("inner" : Str), ("outer" : Str), ("above" : Str), ("limit" : Str), ("great" : Str), ("row" : Str), ("thick" : Str), ("stations" : Str), ("way" : Str), ("knots" : Str), ("links" : Str), ("places" : Str), ("due" : Str), ("section" : Str), ("at" : Str), ("step" : Str)]) (sc := defScope s_law) (by decide +kernel)))) da_nil)))
    (dss_cons (ds_set c 8 (de_call G_leaves_of c (da_cons (de_var 2) da_nil)))
    (dss_cons (ds_if (dt_w (dw_or (dt_cmp (cr_ne c) (de_var 8) (de_fdivW (de_add (de_var 2) de_int) de_int)) (dw_or1 (dt_not (dt_chain cr_le cr_le (de_sub (de_mul de_int (de_var 7)) de_int) (de_var 8) (de_mul de_int (de_var 7))))))) (dss_one (ds_ret de_bl)) dss_nil)
    (dss_cons (ds_if (dt_cmp (cr_ne c) (de_call G__law_plain c (da_cons (de_call G_thickness c (da_cons (de_var 4) (da_cons (de_var 5) (da_cons (de_var 8) da_nil)))) da_nil)) (de_call G__law_plain c (da_cons (de_call G__law_fraction c (da_cons (de_mul (de_mul (de_var 8) (de_var 4)) (de_var 5)) (da_cons de_int da_nil))) da_nil))) (dss_one (ds_ret de_bl)) dss_nil)
    (dss_cons (ds_if (dt_cmp (cr_ne c) (de_call G__law_plain c (da_cons (de_call G_spine c (da_cons (de_var 2) (da_cons (de_var 4) (da_cons (de_var 5) da_nil)))) da_nil)) (de_call G__law_plain c (da_cons (de_neg (de_fdivW (de_mul (de_mul (de_neg (de_var 8)) (de_var 4)) (de_var 5)) de_int)) da_nil))) (dss_one (ds_ret de_bl)) dss_nil)
    (dss_cons (ds_set c 9 (de_add de_int (de_mul de_int (de_callIo G__law_take c 1 (pv 1) (da_cons de_int da_nil)))))
    (dss_cons (ds_set c 10 (de_add de_int (de_mul de_int (de_callIo G__law_take c 1 (pv 1) (da_cons de_int da_nil)))))
    (dss_cons (ds_set c 11 (de_call G_weight c (da_cons (de_var 9) (da_cons (de_var 10) (da_cons (de_var 4) (da_cons (de_mul de_int (de_var 7)) da_nil))))))
    (dss_cons (ds_if (dt_cmp (cr_ne c) (de_call G__law_plain c (da_cons (de_var 11) da_nil)) (de_call G__law_plain c (da_cons (de_call G_weight c (da_cons (de_mul de_int (de_var 9)) (da_cons (de_var 10) (da_cons (de_var 4) (da_cons (de_var 7) da_nil))))) da_nil))) (dss_one (ds_ret de_bl)) dss_nil)
    (dss_cons (ds_if (dt_cmp (cr_ne c) (de_call G__law_plain c (da_cons (de_var 11) da_nil)) (de_call G__law_plain c (da_cons (de_call G__law_fraction c (da_cons (de_mul (de_mul (de_mul (de_mul de_int (de_var 7)) (de_var 9)) (de_var 10)) (de_var 4)) (da_cons de_int da_nil))) da_nil))) (dss_one (ds_ret de_bl)) dss_nil)
    (dss_cons (ds_set c 12 (de_add de_int (de_callIo G__law_take c 1 (pv 1) (da_cons de_int da_nil))))
    (dss_cons (ds_set c 13 (de_add (de_mul de_int (de_var 9)) (de_call G_spine c (da_cons (de_var 2) (da_cons (de_var 4) (da_cons (de_var 5) da_nil))))))
    (dss_cons (ds_set c 14 (de_call G_weight c (da_cons (de_var 9) (da_cons (de_var 10) (da_cons (de_var 4) (da_cons (de_var 8) da_nil))))))
    (dss_cons (ds_set c 15 (de_call G_weight c (da_cons (de_var 13) (da_cons (de_var 10) (da_cons (de_var 12) (da_cons de_int da_nil))))))
    (dss_cons (ds_set c 16 (de_add (de_mul (de_ix (de_var 14) de_int) (de_ix (de_var 15) de_int)) (de_mul (de_ix (de_var 15) de_int) (de_ix (de_var 14) de_int))))
    (dss_cons (ds_if (dt_cmp (cr_ne c) (de_call G_book_weight c (da_cons (de_var 9) (da_cons (de_var 10) (da_cons (de_var 2) (da_cons (de_var 4) (da_cons (de_var 5) (da_cons (de_var 12) da_nil))))))) (de_call G__law_fraction c (da_cons (de_var 16) (da_cons (de_mul (de_ix (de_var 14) de_int) (de_ix (de_var 15) de_int)) da_nil)))) (dss_one (ds_ret de_bl)) dss_nil)
    (dss_cons (ds_set c 17 (de_callIo G__law_take c 1 (pv 1) (da_cons de_int da_nil)))
    (dss_cons (ds_set c 18 (de_call G_most_grams c (da_cons (de_var 9) (da_cons (de_var 10) (da_cons (de_var 2) (da_cons (de_var 17) da_nil))))))
    (dss_cons (ds_if (dt_w (dw_and (dt_cmp cr_gt (de_var 18) de_int) (dw_and1 (dt_cmp cr_gt (de_mul (de_mul (de_mul (de_var 8) (de_var 9)) (de_var 10)) (de_var 18)) (de_mul (de_var 17) de_int))))) (dss_one (ds_ret de_bl)) dss_nil)
    (dss_cons (ds_if (dt_cmp cr_le (de_mul (de_mul (de_mul (de_var 8) (de_var 9)) (de_var 10)) (de_add (de_var 18) de_int)) (de_mul (de_var 17) de_int)) (dss_one (ds_ret de_bl)) dss_nil)
    (dss_cons (ds_set c 19 (de_call G_nested c (da_cons (de_len B (da_cons (de_ix (de_var 6) de_int) da_nil)) (da_cons de_int da_nil))))
    (dss_cons (ds_set c 20 (de_add de_int (de_callIo G__law_take c 1 (pv 1) (da_cons de_int da_nil))))
    (dss_cons (ds_if (dt_w (dw_or (dt_cmp (cr_ne c) (de_len B (da_cons (de_var 19) da_nil)) (de_len B (da_cons (de_ix (de_var 6) de_int) da_nil))) (dw_or1 (dt_cmp (cr_ne c) (de_call G_creep c (da_cons (de_len B (da_cons (de_var 19) da_nil)) (da_cons (de_var 20) da_nil))) (DF.sh (df_lc [(("at" : Str), 28)] c (di_r1 B (da_cons (de_len B (da_cons (de_var 19) da_nil)) da_nil)) (lg_name 28) (fun _ _ _ _ _ => (dg_name c.blk 28)) (fun _ _ _ _ _ => dts_nil) (fun _ _ _ _ _ => (de_mul (de_var 20) (de_var 28))) (ok := blkOk_by (N := [("script" : Str), ("deck" : Str), ("pages" : Str), ("most" : Str), ("grams" : Str), ("bulk" : Str), ("book" : Str), ("sheets" : Str), ("leaves" : Str), ("width" : Str), ("high" : Str), ("one" : Str), ("cover" : Str), ("wide" : Str), ("inner" : Str), ("outer" : Str), ("above" : Str), ("limit" : Str), ("great" : Str), ("row" : Str), ("thick" : Str), ("stations" : Str), ("way" : Str), ("knots" : Str), ("links" : Str), ("places" : Str), ("due" : Str), ("section" : Str), ("at" : Str), ("step" : Str)]) (sc := defScope s_law) (by decide +kernel)))))))) (dss_one (ds_ret de_bl)) dss_nil)
    (dss_cons (ds_set c 21 (de_add de_int (de_mul de_int (de_callIo G__law_take c 1 (pv 1) (da_cons de_int da_nil)))))
    (dss_cons (ds_set c 22 (de_call G_sewing c (da_cons (de_len B (da_cons (de_var 6) da_nil)) (da_cons (de_var 21) da_nil))))
    (dss_cons (ds_if (dt_w (dw_or (dt_cmp cr_isNotB (de_call G_judge_sewing c (da_cons (de_len B (da_cons (de_var 6) da_nil)) (da_cons (de_var 21) (da_cons (de_var 22) da_nil)))) de_bl) (dw_or1 (dt_cmp cr_isNotB (de_call G_judge_sewing c (da_cons (de_len B (da_cons (de_var 6) da_nil)) (da_cons (de_var 21) (da_cons (de_sl (de_var 22) (do_some de_int) do_none) da_nil)))) de_bl)))) (dss_one (ds_ret de_bl)) dss_nil)
    (dss_cons (ds_if (dt_cmp (cr_ne c) (de_mul (de_len B (da_cons (DF.sh (df_lc [(("step" : Str), 29)] c (di_seq (de_var 22)) (lg_name 29) (fun _ _ _ _ _ => (dg_name c.blk 29)) (fun _ _ _ _ _ => (dts_one (dt_cmp (cr_eq c.blk) (de_ix (de_var 29) de_int) de_str))) (fun _ _ _ _ _ => (de_var 29)) (ok := blkOk_by (N := [("script" : Str), ("deck" : Str), ("pages" : Str), ("most" : Str), ("grams" : Str), ("bulk" : Str), ("book" : Str), ("sheets" : Str), ("leaves" : Str), ("width" : Str), ("high" : Str), ("one" : Str), ("cover" : Str), ("wide" : Str), ("inner" : Str), ("outer" : Str), ("above" : Str), ("limit" : Str), ("great" : Str), ("row" : Str), ("thick" : Str), ("stations" : Str), ("way" : Str), ("knots" : Str), ("links" : Str), ("places" : Str), ("due" : Str), ("section" : Str), ("at" : Str), ("step" : Str)]) (sc := defScope s_law) (by decide +kernel)))) da_nil)) de_int) (de_mul (de_var 21) (de_len B (da_cons (de_var 6) da_nil)))) (dss_one (ds_ret de_bl)) dss_nil)
    (dss_cons (ds_set c 23 (de_len B (da_cons (DF.sh (df_lc [(("step" : Str), 29)] c (di_seq (de_var 22)) (lg_name 29) (fun _ _ _ _ _ => (dg_name c.blk 29)) (fun _ _ _ _ _ => (dts_one (dt_cmp (cr_eq c.blk) (de_ix (de_var 29) de_int) de_str))) (fun _ _ _ _ _ => (de_var 29)) (ok := blkOk_by (N := [("script" : Str), ("deck" : Str), ("pages" : Str), ("most" : Str), ("grams" : Str), ("bulk" : Str), ("book" : Str), ("sheets" : Str), ("leaves" : Str), ("width" : Str), ("high" : Str), ("one" : Str), ("cover" : Str), ("wide" : Str), ("inner" : Str), ("outer" : Str), ("above" : Str), ("limit" : Str), ("great" : Str), ("row" : Str), ("thick" : Str), ("stations" : Str), ("way" : Str), ("knots" : Str), ("links" : Str), ("places" : Str), ("due" : Str), ("section" : Str), ("at" : Str), ("step" : Str)]) (sc := defScope s_law) (by decide +kernel)))) da_nil)))
    (dss_cons (ds_set c 24 (de_len B (da_cons (DF.sh (df_lc [(("step" : Str), 29)] c (di_seq (de_var 22)) (lg_name 29) (fun _ _ _ _ _ => (dg_name c.blk 29)) (fun _ _ _ _ _ => (dts_one (dt_cmp (cr_eq c.blk) (de_ix (de_var 29) de_int) de_str))) (fun _ _ _ _ _ => (de_var 29)) (ok := blkOk_by (N := [("script" : Str), ("deck" : Str), ("pages" : Str), ("most" : Str), ("grams" : Str), ("bulk" : Str), ("book" : Str), ("sheets" : Str), ("leaves" : Str), ("width" : Str), ("high" : Str), ("one" : Str), ("cover" : Str), ("wide" : Str), ("inner" : Str), ("outer" : Str), ("above" : Str), ("limit" : Str), ("great" : Str), ("row" : Str), ("thick" : Str), ("stations" : Str), ("way" : Str), ("knots" : Str), ("links" : Str), ("places" : Str), ("due" : Str), ("section" : Str), ("at" : Str), ("step" : Str)]) (sc := defScope s_law) (by decide +kernel)))) da_nil)))
    (dss_cons (ds_if (dt_cmp (cr_ne c) (de_tup (da_cons (de_var 23) (da_cons (de_var 24) da_nil))) (de_tup (da_cons (de_toint B (da_cons (de_cmp cr_gt (de_len B (da_cons (de_var 6) da_nil)) de_int) da_nil)) (da_cons (de_max2 c B (da_cons (de_sub (de_len B (da_cons (de_var 6) da_nil)) de_int) (da_cons de_int da_nil))) da_nil)))) (dss_one (ds_ret de_bl)) dss_nil)
    (dss_cons (ds_setLc 25 [(("at" : Str), 28)] c (di_r1 B (da_cons (de_var 21) da_nil)) (lg_name 28) (fun _ _ _ _ _ => (dg_name c.blk 28)) (fun _ _ _ _ _ => dts_nil) (fun _ _ _ _ _ => (de_add (de_mul de_int (de_var 28)) de_int)) (ok := blkOk_by (N := [("script" : Str), ("deck" : Str), ("pages" : Str), ("most" : Str), ("grams" : Str), ("bulk" : Str), ("book" : Str), ("sheets" : Str), ("leaves" : Str), ("width" : Str), ("high" : Str), ("one" : Str), ("cover" : Str), ("wide" : Str), ("inner" : Str), ("outer" : Str), ("above" : Str), ("limit" : Str), ("great" : Str), ("row" : Str), ("thick" : Str), ("stations" : Str), ("way" : Str), ("knots" : Str), ("links" : Str), ("places" : Str), ("due" : Str), ("section" : Str), ("at" : Str), ("step" : Str)]) (sc := defScope s_law) (by decide +kernel)))
    (dss_cons (ds_set c 26 (de_add (de_mul (de_len B (da_cons (de_var 6) da_nil)) (de_sub (de_ix (de_var 25) (de_neg de_int)) (de_ix (de_var 25) de_int))) (de_mul (de_sub (de_len B (da_cons (de_var 6) da_nil)) de_int) (de_var 20))))
    (dss_one (ds_ret (de_cmp (cr_eq c) (de_call G__law_plain c (da_cons (de_call G_thread_length c (da_cons (de_len B (da_cons (de_var 6) da_nil)) (da_cons (de_var 20) (da_cons (de_var 25) da_nil)))) da_nil)) (de_call G__law_plain c (da_cons (de_var 26) da_nil)))))))))))))))))))))))))))))))))))))))))))
end
def fa : List He.Fa := [.glo ("_law_deck" : Str), .glo ("check_book" : Str), .glo ("section_from" : Str), .glo ("sections_for" : Str), .glo ("leaves_of" : Str), .glo ("check_size" : Str), .glo ("check_grams" : Str), .glo ("fraction" : Str), .glo ("weight" : Str), .glo ("_law_take" : Str), .glo ("most_grams" : Str), .glo ("check_sheets" : Str), .glo ("nested" : Str), .glo ("check_sewing" : Str), .glo ("sewing" : Str), .glo ("_law_plain" : Str), .glo ("thickness" : Str), .glo ("spine" : Str), .glo ("book_weight" : Str), .glo ("_law_divisor" : Str), .glo ("_law_fraction" : Str), .glo ("creep" : Str), .glo ("judge_sewing" : Str), .glo ("thread_length" : Str), .glo ("law" : Str), .glo ("InvalidLength" : Str), .glo ("InvalidMarks" : Str), .glo ("InvalidSheet" : Str), .glo ("TooMany" : Str), .glo ("PressError" : Str), .free ("abs" : Str), .free ("all" : Str), .free ("any" : Str), .free ("bool" : Str), .free ("dict" : Str), .free ("enumerate" : Str), .free ("int" : Str), .free ("isinstance" : Str), .free ("len" : Str), .free ("list" : Str), .free ("max" : Str), .free ("min" : Str), .free ("range" : Str), .free ("reversed" : Str), .free ("set" : Str), .free ("sorted" : Str), .free ("str" : Str), .free ("sum" : Str), .free ("tuple" : Str), .free ("zip" : Str), .int ("MOST_PAGES_sections" : Str) (4000), .int ("MOST_PAGES_sheets" : Str) (10000), .int ("MOST_SECTIONS" : Str) (500), .int ("MOST_STATIONS" : Str) (100), .int ("SQUARE_METRE" : Str) (10000000000)]
def fn : List He.DefD := [⟨(("_law_deck" : Str), none), ("_law_deck" : Str), ("_law_deck" : Str), defArgs s__law_deck, defBody s__law_deck, defScope s__law_deck, [], []⟩, ⟨(("check_book" : Str), none), ("check_book" : Str), ("check_book" : Str), defArgs s_check_book, defBody s_check_book, defScope s_check_book, [], []⟩, ⟨(("section_from" : Str), none), ("section_from" : Str), ("section_from" : Str), defArgs s_section_from, defBody s_section_from, defScope s_section_from, [], []⟩, ⟨(("sections_for" : Str), none), ("sections_for" : Str), ("sections_for" : Str), defArgs s_sections_for, defBody s_sections_for, defScope s_sections_for, [], []⟩, ⟨(("leaves_of" : Str), none), ("leaves_of" : Str), ("leaves_of" : Str), defArgs s_leaves_of, defBody s_leaves_of, defScope s_leaves_of, [], []⟩, ⟨(("check_size" : Str), none), ("check_size" : Str), ("check_size" : Str), defArgs s_check_size, defBody s_check_size, defScope s_check_size, [], []⟩, ⟨(("check_grams" : Str), none), ("check_grams" : Str), ("check_grams" : Str), defArgs s_check_grams, defBody s_check_grams, defScope s_check_grams, [], []⟩, ⟨(("fraction" : Str), none), ("fraction" : Str), ("fraction" : Str), defArgs s_fraction, defBody s_fraction, defScope s_fraction, [], []⟩, ⟨(("weight" : Str), none), ("weight" : Str), ("weight" : Str), defArgs s_weight, defBody s_weight, defScope s_weight, [], []⟩, ⟨(("_law_take" : Str), none), ("_law_take" : Str), ("_law_take" : Str), defArgs s__law_take, defBody s__law_take, defScope s__law_take, [], []⟩, ⟨(("most_grams" : Str), none), ("most_grams" : Str), ("most_grams" : Str), defArgs s_most_grams, defBody s_most_grams, defScope s_most_grams, [], []⟩, ⟨(("check_sheets" : Str), none), ("check_sheets" : Str), ("check_sheets" : Str), defArgs s_check_sheets, defBody s_check_sheets, defScope s_check_sheets, [], []⟩, ⟨(("nested" : Str), none), ("nested" : Str), ("nested" : Str), defArgs s_nested, defBody s_nested, defScope s_nested, [], []⟩, ⟨(("check_sewing" : Str), none), ("check_sewing" : Str), ("check_sewing" : Str), defArgs s_check_sewing, defBody s_check_sewing, defScope s_check_sewing, [], []⟩, ⟨(("sewing" : Str), none), ("sewing" : Str), ("sewing" : Str), defArgs s_sewing, defBody s_sewing, defScope s_sewing, [], []⟩, ⟨(("_law_plain" : Str), none), ("_law_plain" : Str), ("_law_plain" : Str), defArgs s__law_plain, defBody s__law_plain, defScope s__law_plain, [], []⟩, ⟨(("thickness" : Str), none), ("thickness" : Str), ("thickness" : Str), defArgs s_thickness, defBody s_thickness, defScope s_thickness, [], []⟩, ⟨(("spine" : Str), none), ("spine" : Str), ("spine" : Str), defArgs s_spine, defBody s_spine, defScope s_spine, [], []⟩, ⟨(("book_weight" : Str), none), ("book_weight" : Str), ("book_weight" : Str), defArgs s_book_weight, defBody s_book_weight, defScope s_book_weight, [], []⟩, ⟨(("_law_divisor" : Str), none), ("_law_divisor" : Str), ("_law_divisor" : Str), defArgs s__law_divisor, defBody s__law_divisor, defScope s__law_divisor, [], []⟩, ⟨(("_law_fraction" : Str), none), ("_law_fraction" : Str), ("_law_fraction" : Str), defArgs s__law_fraction, defBody s__law_fraction, defScope s__law_fraction, [], []⟩, ⟨(("creep" : Str), none), ("creep" : Str), ("creep" : Str), defArgs s_creep, defBody s_creep, defScope s_creep, [], []⟩, ⟨(("judge_sewing" : Str), none), ("judge_sewing" : Str), ("judge_sewing" : Str), defArgs s_judge_sewing, defBody s_judge_sewing, defScope s_judge_sewing, [], []⟩, ⟨(("thread_length" : Str), none), ("thread_length" : Str), ("thread_length" : Str), defArgs s_thread_length, defBody s_thread_length, defScope s_thread_length, [], []⟩, ⟨(("law" : Str), none), ("law" : Str), ("law" : Str), defArgs s_law, defBody s_law, defScope s_law, [], []⟩, ⟨(("InvalidLength" : Str), some "__init__"), "__init__", "InvalidLength.__init__", defArgs i_InvalidLength, defBody i_InvalidLength, defScope i_InvalidLength, [], []⟩, ⟨(("InvalidMarks" : Str), some "__init__"), "__init__", "InvalidMarks.__init__", defArgs i_InvalidMarks, defBody i_InvalidMarks, defScope i_InvalidMarks, [], []⟩, ⟨(("InvalidSheet" : Str), some "__init__"), "__init__", "InvalidSheet.__init__", defArgs i_InvalidSheet, defBody i_InvalidSheet, defScope i_InvalidSheet, [], []⟩, ⟨(("TooMany" : Str), some "__init__"), "__init__", "TooMany.__init__", defArgs i_TooMany, defBody i_TooMany, defScope i_TooMany, [], []⟩]
def ex (K : PySem.W.Frag) : Bool := (ecB K ("InvalidLength" : Str) "what" && (ecB K ("InvalidMarks" : Str) "what" && (ecB K ("InvalidSheet" : Str) "what" && (ecB K ("TooMany" : Str) "what" && (peB K "PressError" && (exmB K errs && bltB K ("gcd" : Str) "math.gcd"))))))
abbrev R : PySem.W.OpenRow := PySem.W.OpenLaw.row PySem.Challenge.rw_presswork_k91_whole_books_weighed_and_se
abbrev hk : PySem.W.Hook := hookY 4 fa fn ex
def ob (s : PySem.W.SharedT) : AlY := obsY 4 fa fn ex (HandSHeadRun.getT s)
theorem ob_eq (s : PySem.W.SharedT) : ob s = hk.obs s.abs := obsY_eq (HandSHeadRun.getT_eq s)
theorem run (w : World) : HandSHeadRun.RunEqI R (PySem.W.view R.prog [0, 43]) hk ob 3000 [("PressError" : Str), ("InvalidLength" : Str), ("InvalidSheet" : Str), ("InvalidMarks" : Str), ("TooMany" : Str), ("MOST_PAGES_sheets" : Str), ("check_sheets" : Str), ("nested" : Str), ("creep" : Str), ("MOST_PAGES_sections" : Str), ("check_book" : Str), ("section_from" : Str), ("sections_for" : Str), ("MOST_SECTIONS" : Str), ("MOST_STATIONS" : Str), ("check_sewing" : Str), ("sewing" : Str), ("thread_length" : Str), ("judge_sewing" : Str), ("check_size" : Str), ("fraction" : Str), ("SQUARE_METRE" : Str), ("check_grams" : Str), ("weight" : Str), ("thickness" : Str), ("leaves_of" : Str), ("spine" : Str), ("book_weight" : Str), ("most_grams" : Str), ("_law_deck" : Str), ("_law_take" : Str), ("_law_plain" : Str), ("_law_divisor" : Str), ("_law_fraction" : Str)] w := by
  unfold HandSHeadRun.RunEqI
  kernel_rfl
def F_top : Prop := ∀ ns : List Int, ns.length ≤ 63 → ∃ q, F_law [.klst (ns.map .int)] = .ok (.bl true) q
theorem facts (top_ok : F_top) {P : Program} {w : World} {K : PySem.W.Frag} {h : Heap} {mg : Str → Option Value} {f : Addr} (X : K.In h) (G : h.Ns mainGlobals mg) (hfa : mg ("law" : Str) = some (.ref f)) (c : SaysY fa fn ex w K) :
    ∃ fd : FuncData, (∀ (s : Shared) (v : Value), BindsTo s fd ⟨[v], []⟩ [("script", v)]) ∧ ∀ base : Heap, K.In base → base.Ns mainGlobals mg → FnOk P w K mg base (L2.CX P w) 7 f fd ["script"] (spTop K) := by
  have more : ex K = true := c.more
  have c := c.t.d
  obtain ⟨fd__law_deck, D__law_deck⟩ := c.def_ 0 (d := fn[0]) rfl
  obtain ⟨fd_check_book, D_check_book⟩ := c.def_ 1 (d := fn[1]) rfl
  obtain ⟨fd_section_from, D_section_from⟩ := c.def_ 2 (d := fn[2]) rfl
  obtain ⟨fd_sections_for, D_sections_for⟩ := c.def_ 3 (d := fn[3]) rfl
  obtain ⟨fd_leaves_of, D_leaves_of⟩ := c.def_ 4 (d := fn[4]) rfl
  obtain ⟨fd_check_size, D_check_size⟩ := c.def_ 5 (d := fn[5]) rfl
  obtain ⟨fd_check_grams, D_check_grams⟩ := c.def_ 6 (d := fn[6]) rfl
  obtain ⟨fd_fraction, D_fraction⟩ := c.def_ 7 (d := fn[7]) rfl
  obtain ⟨fd_weight, D_weight⟩ := c.def_ 8 (d := fn[8]) rfl
  obtain ⟨fd__law_take, D__law_take⟩ := c.def_ 9 (d := fn[9]) rfl
  obtain ⟨fd_most_grams, D_most_grams⟩ := c.def_ 10 (d := fn[10]) rfl
  obtain ⟨fd_check_sheets, D_check_sheets⟩ := c.def_ 11 (d := fn[11]) rfl
  obtain ⟨fd_nested, D_nested⟩ := c.def_ 12 (d := fn[12]) rfl
  obtain ⟨fd_check_sewing, D_check_sewing⟩ := c.def_ 13 (d := fn[13]) rfl
  obtain ⟨fd_sewing, D_sewing⟩ := c.def_ 14 (d := fn[14]) rfl
  obtain ⟨fd__law_plain, D__law_plain⟩ := c.def_ 15 (d := fn[15]) rfl
  obtain ⟨fd_thickness, D_thickness⟩ := c.def_ 16 (d := fn[16]) rfl
  obtain ⟨fd_spine, D_spine⟩ := c.def_ 17 (d := fn[17]) rfl
  obtain ⟨fd_book_weight, D_book_weight⟩ := c.def_ 18 (d := fn[18]) rfl
  obtain ⟨fd__law_divisor, D__law_divisor⟩ := c.def_ 19 (d := fn[19]) rfl
  obtain ⟨fd__law_fraction, D__law_fraction⟩ := c.def_ 20 (d := fn[20]) rfl
  obtain ⟨fd_creep, D_creep⟩ := c.def_ 21 (d := fn[21]) rfl
  obtain ⟨fd_judge_sewing, D_judge_sewing⟩ := c.def_ 22 (d := fn[22]) rfl
  obtain ⟨fd_thread_length, D_thread_length⟩ := c.def_ 23 (d := fn[23]) rfl
  obtain ⟨fd_law, D_law⟩ := c.def_ 24 (d := fn[24]) rfl
  obtain ⟨fd_InvalidLength, D_InvalidLength⟩ := c.def_ 25 (d := fn[25]) rfl
  obtain ⟨fd_InvalidMarks, D_InvalidMarks⟩ := c.def_ 26 (d := fn[26]) rfl
  obtain ⟨fd_InvalidSheet, D_InvalidSheet⟩ := c.def_ 27 (d := fn[27]) rfl
  obtain ⟨fd_TooMany, D_TooMany⟩ := c.def_ 28 (d := fn[28]) rfl
  have m__law_deck := He.glo_ok X G (c.fact 0 (f := .glo ("_law_deck" : Str)) rfl)
  have m_check_book := He.glo_ok X G (c.fact 1 (f := .glo ("check_book" : Str)) rfl)
  have m_section_from := He.glo_ok X G (c.fact 2 (f := .glo ("section_from" : Str)) rfl)
  have m_sections_for := He.glo_ok X G (c.fact 3 (f := .glo ("sections_for" : Str)) rfl)
  have m_leaves_of := He.glo_ok X G (c.fact 4 (f := .glo ("leaves_of" : Str)) rfl)
  have m_check_size := He.glo_ok X G (c.fact 5 (f := .glo ("check_size" : Str)) rfl)
  have m_check_grams := He.glo_ok X G (c.fact 6 (f := .glo ("check_grams" : Str)) rfl)
  have m_fraction := He.glo_ok X G (c.fact 7 (f := .glo ("fraction" : Str)) rfl)
  have m_weight := He.glo_ok X G (c.fact 8 (f := .glo ("weight" : Str)) rfl)
  have m__law_take := He.glo_ok X G (c.fact 9 (f := .glo ("_law_take" : Str)) rfl)
  have m_most_grams := He.glo_ok X G (c.fact 10 (f := .glo ("most_grams" : Str)) rfl)
  have m_check_sheets := He.glo_ok X G (c.fact 11 (f := .glo ("check_sheets" : Str)) rfl)
  have m_nested := He.glo_ok X G (c.fact 12 (f := .glo ("nested" : Str)) rfl)
  have m_check_sewing := He.glo_ok X G (c.fact 13 (f := .glo ("check_sewing" : Str)) rfl)
  have m_sewing := He.glo_ok X G (c.fact 14 (f := .glo ("sewing" : Str)) rfl)
  have m__law_plain := He.glo_ok X G (c.fact 15 (f := .glo ("_law_plain" : Str)) rfl)
  have m_thickness := He.glo_ok X G (c.fact 16 (f := .glo ("thickness" : Str)) rfl)
  have m_spine := He.glo_ok X G (c.fact 17 (f := .glo ("spine" : Str)) rfl)
  have m_book_weight := He.glo_ok X G (c.fact 18 (f := .glo ("book_weight" : Str)) rfl)
  have m__law_divisor := He.glo_ok X G (c.fact 19 (f := .glo ("_law_divisor" : Str)) rfl)
  have m__law_fraction := He.glo_ok X G (c.fact 20 (f := .glo ("_law_fraction" : Str)) rfl)
  have m_creep := He.glo_ok X G (c.fact 21 (f := .glo ("creep" : Str)) rfl)
  have m_judge_sewing := He.glo_ok X G (c.fact 22 (f := .glo ("judge_sewing" : Str)) rfl)
  have m_thread_length := He.glo_ok X G (c.fact 23 (f := .glo ("thread_length" : Str)) rfl)
  have m_law := He.glo_ok X G (c.fact 24 (f := .glo ("law" : Str)) rfl)
  have m_InvalidLength := He.glo_ok X G (c.fact 25 (f := .glo ("InvalidLength" : Str)) rfl)
  have m_InvalidMarks := He.glo_ok X G (c.fact 26 (f := .glo ("InvalidMarks" : Str)) rfl)
  have m_InvalidSheet := He.glo_ok X G (c.fact 27 (f := .glo ("InvalidSheet" : Str)) rfl)
  have m_TooMany := He.glo_ok X G (c.fact 28 (f := .glo ("TooMany" : Str)) rfl)
  have m_PressError := He.glo_ok X G (c.fact 29 (f := .glo ("PressError" : Str)) rfl)
  have h_MOST_PAGES_sections := He.int_ok X G (c.fact 50 (f := .int ("MOST_PAGES_sections" : Str) (4000)) rfl)
  have h_MOST_PAGES_sheets := He.int_ok X G (c.fact 51 (f := .int ("MOST_PAGES_sheets" : Str) (10000)) rfl)
  have h_MOST_SECTIONS := He.int_ok X G (c.fact 52 (f := .int ("MOST_SECTIONS" : Str) (500)) rfl)
  have h_MOST_STATIONS := He.int_ok X G (c.fact 53 (f := .int ("MOST_STATIONS" : Str) (100)) rfl)
  have h_SQUARE_METRE := He.int_ok X G (c.fact 54 (f := .int ("SQUARE_METRE" : Str) (10000000000)) rfl)
  have B : Bi mg := ⟨He.free_ok X G (c.fact 38 (f := .free ("len" : Str)) rfl), He.free_ok X G (c.fact 30 (f := .free ("abs" : Str)) rfl), He.free_ok X G (c.fact 40 (f := .free ("max" : Str)) rfl), He.free_ok X G (c.fact 41 (f := .free ("min" : Str)) rfl), He.free_ok X G (c.fact 36 (f := .free ("int" : Str)) rfl), He.free_ok X G (c.fact 47 (f := .free ("sum" : Str)) rfl), He.free_ok X G (c.fact 42 (f := .free ("range" : Str)) rfl), He.free_ok X G (c.fact 39 (f := .free ("list" : Str)) rfl), He.free_ok X G (c.fact 48 (f := .free ("tuple" : Str)) rfl), He.free_ok X G (c.fact 45 (f := .free ("sorted" : Str)) rfl), He.free_ok X G (c.fact 44 (f := .free ("set" : Str)) rfl), He.free_ok X G (c.fact 49 (f := .free ("zip" : Str)) rfl), He.free_ok X G (c.fact 35 (f := .free ("enumerate" : Str)) rfl), He.free_ok X G (c.fact 43 (f := .free ("reversed" : Str)) rfl), He.free_ok X G (c.fact 37 (f := .free ("isinstance" : Str)) rfl), He.free_ok X G (c.fact 46 (f := .free ("str" : Str)) rfl), He.free_ok X G (c.fact 33 (f := .free ("bool" : Str)) rfl), He.free_ok X G (c.fact 34 (f := .free ("dict" : Str)) rfl), He.free_ok X G (c.fact 32 (f := .free ("any" : Str)) rfl), He.free_ok X G (c.fact 31 (f := .free ("all" : Str)) rfl)⟩
  unfold ex at more
  simp only [Bool.and_eq_true] at more
  obtain ⟨x_InvalidLength, x_InvalidMarks, x_InvalidSheet, x_TooMany, x_pe, exm, k_gcd⟩ := more
  have h_gcd := bltB_ok X G k_gcd
  have T := peB_ok x_pe
  have hms : ∀ y ∈ errs, mg y = some (.ref (He.ga K y)) := by
    intro y hy
    simp only [errs, List.mem_cons, List.not_mem_nil, or_false] at hy
    rcases hy with rfl | rfl | rfl | rfl
    · exact m_InvalidLength
    · exact m_InvalidMarks
    · exact m_InvalidSheet
    · exact m_TooMany
  have e := hfa.symm.trans m_law
  cases e
  refine ⟨fd_law, fun s v => FunD.bindsA (ps := ["script"]) D_law (fun _ _ _ _ _ _ us hl => match us, hl with | [_], _ => rfl) s [v] rfl, fun base _ _ => ?_⟩
  have e_InvalidLength : Ec P w K mg base ("InvalidLength" : Str) "what" := E_InvalidLength (ecB_ok x_InvalidLength) m_InvalidLength T m_PressError D_InvalidLength
  have e_InvalidMarks : Ec P w K mg base ("InvalidMarks" : Str) "what" := E_InvalidMarks (ecB_ok x_InvalidMarks) m_InvalidMarks T m_PressError D_InvalidMarks
  have e_InvalidSheet : Ec P w K mg base ("InvalidSheet" : Str) "what" := E_InvalidSheet (ecB_ok x_InvalidSheet) m_InvalidSheet T m_PressError D_InvalidSheet
  have e_TooMany : Ec P w K mg base ("TooMany" : Str) "what" := E_TooMany (ecB_ok x_TooMany) m_TooMany T m_PressError D_TooMany
  have g__law_deck : Fd P w K mg base ("_law_deck" : Str) 1 false true 3 F__law_deck := G__law_deck B D__law_deck m__law_deck
  have g_check_book : Fd P w K mg base ("check_book" : Str) 3 false false 2 F_check_book := G_check_book B h_MOST_PAGES_sections e_InvalidSheet e_TooMany D_check_book m_check_book
  have g_section_from : Fd P w K mg base ("section_from" : Str) 1 false false 2 F_section_from := G_section_from B D_section_from m_section_from
  have g_sections_for : Fd P w K mg base ("sections_for" : Str) 4 false false 2 F_sections_for := G_sections_for B g_check_book g_section_from D_sections_for m_sections_for
  have g_leaves_of : Fd P w K mg base ("leaves_of" : Str) 3 false false 1 F_leaves_of := G_leaves_of B e_InvalidLength D_leaves_of m_leaves_of
  have g_check_size : Fd P w K mg base ("check_size" : Str) 3 false false 2 F_check_size := G_check_size B e_InvalidLength D_check_size m_check_size
  have g_check_grams : Fd P w K mg base ("check_grams" : Str) 3 false false 1 F_check_grams := G_check_grams B e_InvalidLength D_check_grams m_check_grams
  have g_fraction : Fd P w K mg base ("fraction" : Str) 1 false false 2 F_fraction := G_fraction B h_gcd D_fraction m_fraction
  have g_weight : Fd P w K mg base ("weight" : Str) 4 false false 4 F_weight := G_weight B h_SQUARE_METRE e_InvalidLength g_check_size g_check_grams g_fraction D_weight m_weight
  have g__law_take : Fd P w K mg base ("_law_take" : Str) 1 true false 2 F__law_take := G__law_take B D__law_take m__law_take
  have g_most_grams : Fd P w K mg base ("most_grams" : Str) 4 false false 4 F_most_grams := G_most_grams B h_SQUARE_METRE e_InvalidLength g_leaves_of g_check_size D_most_grams m_most_grams
  have g_check_sheets : Fd P w K mg base ("check_sheets" : Str) 3 false false 2 F_check_sheets := G_check_sheets B h_MOST_PAGES_sheets e_InvalidSheet e_TooMany D_check_sheets m_check_sheets
  have g_nested : Fd P w K mg base ("nested" : Str) 4 false false 2 F_nested := G_nested B g_check_sheets D_nested m_nested
  have g_check_sewing : Fd P w K mg base ("check_sewing" : Str) 3 false false 2 F_check_sewing := G_check_sewing B h_MOST_SECTIONS h_MOST_STATIONS e_InvalidMarks e_TooMany D_check_sewing m_check_sewing
  have g_sewing : Fd P w K mg base ("sewing" : Str) 4 false false 2 F_sewing := G_sewing B g_check_sewing D_sewing m_sewing
  have g__law_plain : Fd P w K mg base ("_law_plain" : Str) 4 false false 1 F__law_plain := G__law_plain B D__law_plain m__law_plain 3
  have g_thickness : Fd P w K mg base ("thickness" : Str) 4 false false 3 F_thickness := G_thickness B e_InvalidLength g_check_grams g_fraction D_thickness m_thickness
  have g_spine : Fd P w K mg base ("spine" : Str) 5 false false 3 F_spine := G_spine B g_leaves_of g_thickness D_spine m_spine
  have g_book_weight : Fd P w K mg base ("book_weight" : Str) 6 false false 6 F_book_weight := G_book_weight B h_SQUARE_METRE g_leaves_of g_check_size g_check_grams g_fraction g_spine D_book_weight m_book_weight
  have g__law_divisor : Fd P w K mg base ("_law_divisor" : Str) 1 false false 2 F__law_divisor := G__law_divisor B D__law_divisor m__law_divisor
  have g__law_fraction : Fd P w K mg base ("_law_fraction" : Str) 2 false false 2 F__law_fraction := G__law_fraction B g__law_divisor D__law_fraction m__law_fraction
  have g_creep : Fd P w K mg base ("creep" : Str) 3 false false 2 F_creep := G_creep B e_InvalidLength e_InvalidSheet D_creep m_creep
  have g_judge_sewing : Fd P w K mg base ("judge_sewing" : Str) 5 false false 3 F_judge_sewing := G_judge_sewing B g_check_sewing g_sewing D_judge_sewing m_judge_sewing
  have g_thread_length : Fd P w K mg base ("thread_length" : Str) 3 false false 3 F_thread_length := G_thread_length B e_InvalidMarks D_thread_length m_thread_length
  exact fd_top (G_law B g__law_deck g_sections_for g_leaves_of g_weight g__law_take g_most_grams g_nested g_sewing g__law_plain g_thickness g_spine g_book_weight g__law_fraction g_creep g_judge_sewing g_thread_length D_law m_law) top_ok
end PL.K91

set_option Elab.async false
set_option linter.all false
set_option maxRecDepth 100000
set_option maxHeartbeats 4000000
namespace PL.K91
open PySem PySem.Spec L2 PL
set_option autoImplicit false
/-! ### fractions -/
def gd (a b : Int) : Int := ((Nat.gcd a.natAbs b.natAbs : Nat) : Int)
def frac (a b : Int) : PV := .tup [.int (a / gd a b), .int (b / gd a b)]
theorem gd_pos {a b : Int} (h : 0 < b) : 0 < gd a b := by
  unfold gd
  have := Nat.gcd_pos_of_pos_right a.natAbs (n := b.natAbs) (by omega)
  omega
theorem gd_le {a b : Int} (h : 0 < b) : gd a b ≤ b := by
  unfold gd
  have := Nat.gcd_le_right a.natAbs (n := b.natAbs) (by omega)
  omega
theorem Int.natCast_dvd_left'' {a : Nat} {b : Int} (h : a ∣ b.natAbs) : (a : Int) ∣ b := Int.dvd_natAbs.mp (Int.natCast_dvd_natCast.mpr h)
theorem ap_gd (a b : Int) : gGcd [.int a, .int b] = some (.int (gd a b)) := rfl
theorem gd_dvd_l (a b : Int) : gd a b ∣ a := Int.natCast_dvd_left'' (Nat.gcd_dvd_left _ _)
theorem gd_dvd_r (a b : Int) : gd a b ∣ b := Int.natCast_dvd_left'' (Nat.gcd_dvd_right _ _)
theorem log_lt {g : Int} {k : Nat} (h : 0 < g) (h2 : g < 2 ^ k) : g.natAbs.log2 < k := (Nat.log2_lt (by omega)).mpr (by
  have e : ((2 ^ k : Nat) : Int) = (2 : Int) ^ k := by simp
  omega)
theorem log_ok {g : Int} (h : 0 < g) (h2 : g < 2 ^ 200) : g.natAbs.log2 < 9000 := Nat.lt_of_lt_of_le (log_lt h h2) (by omega)
theorem F_fraction_ok {a b : Int} (hb : 0 < b) (hs : b < 2 ^ 200) : F_fraction [.int a, .int b] = .ok (frac a b) .non := by
  have h1 := gd_pos (a := a) hb
  have h2 := gd_le (a := a) hb
  have h3 := log_ok h1 (by omega)
  have h4 : ¬ b < 0 := by omega
  have h5 : (2 : Nat) ≤ sizeLine := szn (by omega)
  simp [F_fraction, den_fraction, runD, argSl, List.replicate, fin0, h1, h3, h4, h5, frac, -ap_gcd, ap_gd]
theorem F_check_size_ok {a b : Int} (ha : 1 ≤ a) (hb : 1 ≤ b) : F_check_size [.int a, .int b] = .ok .non .non := by
  simp [F_check_size, den_check_size, runD, argSl, List.replicate, fin0, show ¬ a < 1 by omega, show ¬ b < 1 by omega]
theorem F_check_grams_ok {a : Int} (ha : 1 ≤ a) : F_check_grams [.int a] = .ok .non .non := by
  simp [F_check_grams, den_check_grams, runD, argSl, List.replicate, fin0, show ¬ a < 1 by omega]
theorem F_leaves_ok {a : Int} (ha : 1 ≤ a) : F_leaves_of [.int a] = .ok (.int ((a + 1) / 2)) .non := by
  have h : Nat.log2 2 < 9000 := by decide
  simp [F_leaves_of, den_leaves_of, runD, argSl, List.replicate, fin0, show ¬ a < 1 by omega, h]
theorem F_weight_ok {w h g s : Int} (hw : 1 ≤ w) (hh : 1 ≤ h) (hh2 : h ≤ 10000000) (hg : 1 ≤ g) (hg2 : g ≤ 10000000) (hs : 0 ≤ s) (hs2 : s ≤ 10000000) : F_weight [.int w, .int h, .int g, .int s] = .ok (frac (w * h * g * s) 10000000000) .non := by
  simp [F_weight, den_weight, runD, argSl, List.replicate, fin0, F_check_size_ok hw hh, F_check_grams_ok hg, show ¬ s < 0 by omega, smI (i := h) (by omega) (by omega), smI (i := g) (by omega) (by omega), smI (i := s) (by omega) (by omega), c_SQUARE_METRE, F_fraction_ok (a := w * h * g * s) (b := 10000000000) (by omega) (by omega)]
theorem F_thickness_ok {g b l : Int} (hg : 1 ≤ g) (hb : 1 ≤ b) (hb2 : b ≤ 10000000) (hl : 0 ≤ l) (hl2 : l ≤ 10000000) : F_thickness [.int g, .int b, .int l] = .ok (frac (g * b * l) 1000) .non := by
  simp [F_thickness, den_thickness, runD, argSl, List.replicate, fin0, F_check_grams_ok hg, show ¬ l < 0 by omega, show ¬ b < 1 by omega, smI (i := b) (by omega) (by omega), smI (i := l) (by omega) (by omega), F_fraction_ok (a := g * b * l) (b := 1000) (by omega) (by omega)]
theorem ceil_frac (a b : Int) (hb : 0 < b) : (-(a / gd a b)) / (b / gd a b) = (-a) / b := by
  have hg := gd_pos (a := a) hb
  obtain ⟨x, hx⟩ := gd_dvd_l a b
  obtain ⟨y, hy⟩ := gd_dvd_r a b
  generalize gd a b = g at *
  subst hx hy
  rw [Int.mul_ediv_cancel_left _ (by omega), Int.mul_ediv_cancel_left _ (by omega), ← Int.mul_neg, Int.mul_ediv_mul_of_pos _ _ hg]
theorem F_spine_ok {p g b : Int} (hp : 1 ≤ p) (hp2 : p ≤ 1000000) (hg : 1 ≤ g) (hb : 1 ≤ b) (hb2 : b ≤ 10000000) : F_spine [.int p, .int g, .int b] = .ok (.int (-((-(g * b * ((p + 1) / 2))) / 1000))) .non := by
  have h0 := gd_pos (a := g * b * ((p + 1) / 2)) (b := 1000) (by omega)
  have h1 : 0 < 1000 / gd (g * b * ((p + 1) / 2)) 1000 := Int.ediv_pos_of_pos_of_dvd (by omega) (by omega) (gd_dvd_r _ _)
  have h2 : 1000 / gd (g * b * ((p + 1) / 2)) 1000 ≤ 1000 := Int.ediv_le_self _ (by omega)
  have h3 := log_ok h1 (by omega)
  have h4 := ceil_frac (g * b * ((p + 1) / 2)) 1000 (by omega)
  simp [F_spine, den_spine, runD, argSl, List.replicate, fin0, F_leaves_ok hp, F_thickness_ok hg hb hb2 (l := (p + 1) / 2) (by omega) (by omega), frac, h1, h3, h4]
theorem mulB {a b A B : Int} (h1 : 0 ≤ a) (h2 : a ≤ A) (h3 : 0 ≤ b) (h4 : b ≤ B) : 0 ≤ a * b ∧ a * b ≤ A * B := ⟨Int.mul_nonneg h1 h3, Int.mul_le_mul h2 h4 h3 (by omega)⟩
theorem F_most_ok {w h p l : Int} (hw : 1 ≤ w) (hw2 : w ≤ 10000000) (hh : 1 ≤ h) (hh2 : h ≤ 10000000) (hp : 1 ≤ p) (hp2 : p ≤ 1000000) (hl : 0 ≤ l) :
    F_most_grams [.int w, .int h, .int p, .int l] = .ok (.int (l * 10000000000 / ((p + 1) / 2 * w * h))) .non := by
  obtain ⟨g1, g2⟩ := mulB (a := (p + 1) / 2) (b := w) (A := 1000000) (B := 10000000) (by omega) (by omega) (by omega) hw2
  obtain ⟨g3, g4⟩ := mulB g1 g2 (show 0 ≤ h by omega) hh2
  have g5 : 0 < (p + 1) / 2 * w * h := Int.mul_pos (Int.mul_pos (by omega) (by omega)) (by omega)
  have g6 := log_ok g5 (by omega)
  simp [F_most_grams, den_most_grams, runD, argSl, List.replicate, fin0, F_check_size_ok hw hh, F_leaves_ok hp, show ¬ l < 0 by omega, smI (i := h) (by omega) (by omega), smI (i := w) (by omega) (by omega), c_SQUARE_METRE, smI (i := 10000000000) (by omega) (by omega), g5, g6]
theorem F_bookw_ok {w h p g b c : Int} (hw : 1 ≤ w) (hw2 : w ≤ 10000000) (hh : 1 ≤ h) (hh2 : h ≤ 10000000) (hp : 1 ≤ p) (hp2 : p ≤ 1000000) (hg : 1 ≤ g) (hg2 : g ≤ 10000000) (hb : 1 ≤ b) (hb2 : b ≤ 10000000) (hc : 1 ≤ c) (hc2 : c ≤ 10000000) :
    F_book_weight [.int w, .int h, .int p, .int g, .int b, .int c] = .ok (frac ((p + 1) / 2 * w * h * g + (2 * w + -((-(g * b * ((p + 1) / 2))) / 1000)) * h * c) 10000000000) .non := by
  simp [F_book_weight, den_book_weight, runD, argSl, List.replicate, fin0, F_check_size_ok hw hh, F_check_grams_ok hc, F_leaves_ok hp, F_spine_ok hp hp2 hg hb hb2, smI (i := h) (by omega) (by omega), smI (i := w) (by omega) (by omega), smI (i := g) (by omega) (by omega), smI (i := c) (by omega) (by omega), smI (i := 2) (by omega) (by omega), c_SQUARE_METRE, F_fraction_ok (b := 10000000000) (by omega) (by omega)]
/-! ### the law's fractions -/
theorem div_loop : ∀ (n a b : Nat), b < n → ∃ c : Nat, dWhile (bVal (d2 gNe (dVar 1) (dC (.int 0)))) B__law_divisor_1 n [.sh (.int (a : Int)), .sh (.int (b : Int))] = .nx [.sh (.int (c : Int)), .sh (.int 0)] ∧ c = Nat.gcd a b
  | 0, a, b, h => absurd h (Nat.not_lt_zero _)
  | n + 1, a, b, h => by
    rcases Nat.eq_zero_or_pos b with hb | hb
    · subst hb
      refine ⟨a, ?_, by simp⟩
      have e : (bVal (d2 gNe (dVar 1) (dC (.int 0)))) [.sh (.int (a : Int)), .sh (.int 0)] = .ok false [.sh (.int (a : Int)), .sh (.int 0)] := by simp
      show (dWhile _ _ (n + 1) [.sh (.int (a : Int)), .sh (.int 0)]) = _
      rw [dWhile, e]
      rfl
    · obtain ⟨c, h1, h2⟩ := div_loop n b (a % b) (Nat.lt_of_lt_of_le (Nat.mod_lt _ hb) (by omega))
      refine ⟨c, ?_, by rw [h2, Nat.gcd_comm b, ← Nat.gcd_rec, Nat.gcd_comm]⟩
      have e : (a : Int) % (b : Int) = ((a % b : Nat) : Int) := by simp
      rw [← h1, dWhile]
      simp [B__law_divisor_1, show b ≠ 0 by omega, hb]
theorem F_divisor_ok (a b : Nat) : F__law_divisor [.int (a : Int), .int (b : Int)] = .ok (.int (Nat.gcd a b : Nat)) .non := by
  obtain ⟨c, h1, h2⟩ := div_loop (b + 2) a b (by omega)
  subst h2
  have e : sWhile (muI 1) (bVal (d2 gNe (dVar 1) (dC (.int 0)))) B__law_divisor_1 [.sh (.int (a : Int)), .sh (.int (b : Int))] = .nx [.sh (.int ((Nat.gcd a b : Nat) : Int)), .sh (.int 0)] := by
    rw [← h1]; rfl
  have e2 : den__law_divisor [.sh (.int (a : Int)), .sh (.int (b : Int))] = .rt (.int (Nat.gcd a b : Nat)) [.sh (.int ((Nat.gcd a b : Nat) : Int)), .sh (.int 0)] := by
    unfold den__law_divisor
    rw [seq_nx e]
    simp [show ¬ ((Nat.gcd a b : Nat) : Int) < 0 by omega]
  show (match den__law_divisor [.sh (.int (a : Int)), .sh (.int (b : Int))] with | .rt p ρ => fin0 false p ρ | .nx ρ => if false = true then FR.bad else fin0 false .non ρ | .exc x _ => .exc x | _ => .bad) = _
  rw [e2]
  rfl
theorem F_lfrac_ok {a b : Int} (ha : 0 ≤ a) (hb : 0 < b) (hs : b < 2 ^ 200) : F__law_fraction [.int a, .int b] = .ok (frac a b) .non := by
  obtain ⟨m, rfl⟩ := Int.eq_ofNat_of_zero_le ha
  obtain ⟨n, rfl⟩ := Int.eq_ofNat_of_zero_le (show 0 ≤ b by omega)
  have h1 := gd_pos (a := (m : Int)) hb
  have h2 := gd_le (a := (m : Int)) hb
  have h3 := log_ok h1 (by omega)
  have h5 : (2 : Nat) ≤ sizeLine := szn (by omega)
  have e : F__law_divisor [.int (m : Int), .int (n : Int)] = .ok (.int (gd m n)) .non := F_divisor_ok m n
  simp [F__law_fraction, den__law_fraction, runD, argSl, List.replicate, fin0, e, h1, h3, h5, frac]
theorem frac_scale {a b k : Int} (hb : 0 < b) (hk : 0 < k) : frac (a * k) (b * k) = frac a b := by
  have e : gd (a * k) (b * k) = gd a b * k := by
    unfold gd
    rw [Int.natAbs_mul, Int.natAbs_mul, Nat.gcd_mul_right]
    have : (k.natAbs : Int) = k := by omega
    rw [Int.natCast_mul, this]
  unfold frac
  rw [e, Int.mul_ediv_mul_of_pos_left _ _ hk, Int.mul_ediv_mul_of_pos_left _ _ hk]
theorem m4 (a b c d : Int) : a * b * (c * d) = a * c * (b * d) := by ac_rfl
theorem frac_sum {I O M : Int} (hM : 0 < M) : frac (I / gd I M * (M / gd O M) + O / gd O M * (M / gd I M)) (M / gd I M * (M / gd O M)) = frac (I + O) M := by
  have h1 := gd_pos (a := I) hM
  have h2 := gd_pos (a := O) hM
  have p1 : 0 < M / gd I M := Int.ediv_pos_of_pos_of_dvd hM (by omega) (gd_dvd_r _ _)
  have p2 : 0 < M / gd O M := Int.ediv_pos_of_pos_of_dvd hM (by omega) (gd_dvd_r _ _)
  have e1 : I / gd I M * gd I M = I := Int.ediv_mul_cancel (gd_dvd_l _ _)
  have e2 : O / gd O M * gd O M = O := Int.ediv_mul_cancel (gd_dvd_l _ _)
  have e3 : M / gd I M * gd I M = M := Int.ediv_mul_cancel (gd_dvd_r _ _)
  have e4 : M / gd O M * gd O M = M := Int.ediv_mul_cancel (gd_dvd_r _ _)
  generalize M / gd I M = m1 at *
  generalize M / gd O M = m2 at *
  generalize I / gd I M = i at *
  generalize O / gd O M = o at *
  generalize gd I M = g1 at *
  generalize gd O M = g2 at *
  rw [← frac_scale (a := I + O) (b := M) (k := M) hM hM, ← frac_scale (a := i * m2 + o * m1) (k := g1 * g2) (Int.mul_pos p1 p2) (Int.mul_pos h1 h2)]
  congr 1
  · rw [Int.add_mul, Int.add_mul, m4 i, e1, e4, Int.mul_comm g1 g2, m4 o, e2, e3]
  · rw [m4, e3, e4]
/-! ### sections -/
theorem F_secfrom_ok {f : Int} {n : Nat} (hn : n ≤ 10000) : ∃ xs : List PV, xs.length = n ∧ F_section_from [.int f, .int (n : Int)] = .ok (.lst xs) .non := by
  refine ⟨(List.range n).map fun (i : Nat) => .tup [.int (f + 4 * n - 1 - 2 * (i : Int)), .int (f + 2 * (i : Int)), .int (f + 2 * (i : Int) + 1), .int (f + 4 * n - 1 - 2 * (i : Int) - 1)], by simp, ?_⟩
  have h := lc_mapG (own := [3]) (tg := gName 3) (E := E_section_from_1) (fun i : Nat => PV.int (i : Int)) (fun (i : Nat) => PV.tup [.int (f + 4 * n - 1 - 2 * (i : Int)), .int (f + 2 * (i : Int)), .int (f + 2 * (i : Int) + 1), .int (f + 4 * n - 1 - 2 * (i : Int) - 1)])
    [.sh (.int f), .sh (.int (n : Int)), .sh (.int (f + 4 * n - 1)), .un] (List.range n) fun i _ => ⟨[.sh (.int f), .sh (.int (n : Int)), .sh (.int (f + 4 * n - 1)), .sh (.int (i : Int))], [.sh (.int f), .sh (.int (n : Int)), .sh (.int (f + 4 * n - 1)), .sh (.int (i : Int))], rfl, by simp [E_section_from_1, smI (i := 2) (by omega) (by omega), szn (show 4 ≤ 1000000 by omega)], rfl, rfl⟩
  have e : rangeP 0 n = (List.range n).map fun i : Nat => PV.int (i : Int) := by simp [rangeP_map]
  refine run_rt (env := [.sh (.int f), .sh (.int (n : Int)), .un, .un]) (ρ := [.sh (.int f), .sh (.int (n : Int)), .sh (.int (f + 4 * n - 1)), .un]) ?_
  simp [den_section_from, smI (i := 4) (by omega) (by omega), rg1_nat (show n ≤ 1000000000 by omega), lockE, e, h, show n ≤ 1000000 by omega, ap_backE, backR]
def szs (sh many : Nat) : List Nat := (List.range many).map fun i => sh / many + if i < sh % many then 1 else 0
def sfE (p m : PV) (sh many : Nat) (secs : List PV) (f : Int) (s6 s7 : Sl) : Env := [.sh p, .sh m, .sh (.int (sh : Int)), .sh (.int (many : Int)), .ow (.lst secs), .sh (.int f), s6, s7]
theorem secs_body {p m : PV} {sh many i : Nat} {xss : List (List PV)} {f : Int} {s7 : Sl} (hm1 : 1 ≤ many) (hm3 : many ≤ 1000) (hsh2 : sh ≤ 1000) (hx : xss.length ≤ 1000) :
    ∃ xs : List PV, xs.length = (sh / many + if i < sh % many then 1 else 0) ∧ B_sections_for_1 (sfE p m sh many (xss.map .lst) f (.sh (.int (i : Int))) s7) = .nx (sfE p m sh many ((xss ++ [xs]).map .lst) (f + 4 * ((sh / many + if i < sh % many then 1 else 0 : Nat) : Int)) (.sh (.int (i : Int))) (.sh (.int ((sh / many + if i < sh % many then 1 else 0 : Nat) : Int)))) := by
  have hq : sh / many ≤ sh := Nat.div_le_self _ _
  obtain ⟨n, hn⟩ : ∃ n, n = sh / many + if i < sh % many then 1 else 0 := ⟨_, rfl⟩
  have hn2 : n ≤ 10000 := by rw [hn]; split <;> omega
  obtain ⟨xs, k1, k2⟩ := F_secfrom_ok (f := f) (n := n) hn2
  refine ⟨xs, by omega, ?_⟩
  rw [← hn]
  have h1 : Nat.log2 many < 9000 := by
    have := log_ok (g := (many : Int)) (by omega) (by omega)
    simpa using this
  have h2 : (sh : Int) / (many : Int) + (if (i : Int) < (sh : Int) % (many : Int) then 1 else 0) = (n : Int) := by
    have z1 : (sh : Int) / (many : Int) = ((sh / many : Nat) : Int) := (Int.natCast_ediv _ _).symm
    have z2 : (sh : Int) % (many : Int) = ((sh % many : Nat) : Int) := (Int.natCast_emod _ _).symm
    rw [hn, z1, z2]
    generalize sh / many = u
    generalize sh % many = v
    by_cases h : i < v
    · rw [if_pos h, if_pos (by omega)]; rfl
    · rw [if_neg h, if_neg (by omega)]; rfl
  have h3 : ∀ b : Bool, (if b = true then (1 : Int) else 0) = if b = true then 1 else 0 := fun _ => rfl
  simp [B_sections_for_1, sfE, h1, hm1, show 0 < many by omega, h2, k2, szl (show xss.length ≤ 1000000 by omega), smI (i := 4) (by omega) (by omega)]
theorem F_sections_ok {p m : Nat} (hp : 1 ≤ p) (hp2 : p ≤ 4000) (hm : 1 ≤ m) (hm2 : m ≤ 1000) : ∃ (xss : List (List PV)), F_sections_for [.int (p : Int), .int (m : Int)] = .ok (.lst (xss.map .lst)) .non ∧ xss.map (·.length) = szs ((p + 3) / 4) (((p + 3) / 4 + m - 1) / m) := by
  obtain ⟨sh, hsh⟩ : ∃ sh, sh = (p + 3) / 4 := ⟨_, rfl⟩
  obtain ⟨many, hmany⟩ : ∃ many, many = (sh + m - 1) / m := ⟨_, rfl⟩
  have hsh1 : 1 ≤ sh := by omega
  have hsh2 : sh ≤ 1000 := by omega
  have hm1 : 1 ≤ many := by rw [hmany]; exact (Nat.le_div_iff_mul_le (by omega)).mpr (by omega)
  have hm3 : many ≤ sh := by
    rw [hmany]
    refine Nat.le_of_lt_succ ((Nat.div_lt_iff_lt_mul (by omega)).mpr ?_)
    have := Nat.le_mul_of_pos_right sh (show 0 < m by omega)
    rw [Nat.succ_mul]
    omega
  have e1 : -(-(p : Int) / 4) = (sh : Int) := by omega
  have e2 : -(-(sh : Int) / (m : Int)) = (many : Int) := by rw [hmany, ceil_nat _ _ (by omega)]
  have hc : F_check_book [.int (p : Int), .int (m : Int)] = .ok .non .non := by
    refine run_nx (ρ := [.sh (.int (p : Int)), .sh (.int (m : Int))]) (env := [.sh (.int (p : Int)), .sh (.int (m : Int))]) ?_
    simp [den_check_book, show ¬ (p : Int) < 1 by omega, show ¬ (m : Int) < 1 by omega, c_MOST_PAGES_sections, show ¬ 4000 < (p : Int) by omega, show p ≠ 0 by omega, show m ≠ 0 by omega]
  obtain ⟨ρ, h1, xss, f, s6, s7, h2, h3⟩ := dLoop_inv (tgt := gName 6) (body := B_sections_for_1) (items := rangeP 0 many) (ρ0 := sfE (.int p) (.int m) sh many [] 1 .un .un)
    (fun i ρ => ∃ (xss : List (List PV)) (f : Int) (s6 s7 : Sl), xss.map (·.length) = (szs sh many).take i ∧ ρ = sfE (.int p) (.int m) sh many (xss.map .lst) f s6 s7)
    (fun i x ρ hx hi => by
      obtain ⟨hie, rfl⟩ := rangeP_get hx
      obtain ⟨xss, f, s6, s7, hl, rfl⟩ := hi
      have hlen : xss.length = i := by
        have := congrArg List.length hl
        simp [szs] at this
        omega
      obtain ⟨xs, k1, k2⟩ := secs_body (p := .int p) (m := .int m) (f := f) (s7 := s7) (i := i) (xss := xss) hm1 (by omega) hsh2 (by omega)
      rw [Int.zero_add]
      refine ⟨_, _, rfl, .inl k2, xss ++ [xs], _, _, _, ?_, rfl⟩
      rw [List.take_add_one, List.map_append, hl]
      congr 1
      simp [szs, hie, k1]) ⟨[], 1, .un, .un, by simp, rfl⟩
  refine ⟨xss, ?_, ?_⟩
  · subst h3
    have h6 : Nat.log2 m < 9000 := by
      have := log_ok (g := (m : Int)) (by omega) (by omega)
      simpa using this
    have h7 : Nat.log2 4 < 9000 := by decide
    refine run_rt (env := [.sh (.int (p : Int)), .sh (.int (m : Int)), .un, .un, .un, .un, .un, .un]) (ρ := [.sh (.int (p : Int)), .sh (.int (m : Int)), .sh (.int (sh : Int)), .sh (.int (many : Int)), .sh (.lst (xss.map .lst)), .sh (.int f), s6, s7]) ?_
    have h8 : sFor (iR1 (dCons (dVar 3) dNil)) (gName 6) B_sections_for_1 [.sh (.int (p : Int)), .sh (.int (m : Int)), .sh (.int (sh : Int)), .sh (.int (many : Int)), .ow (.lst []), .sh (.int 1), .un, .un] = .nx (sfE (.int p) (.int m) sh many (xss.map .lst) f s6 s7) := by
      rw [← h1]
      simp [sfE, rg1_nat (show many ≤ 1000000000 by omega)]
    unfold den_sections_for
    (apply sq_step; focus (simp [hc] <;> rfl))
    (apply sq_step; focus (simp [h7, e1] <;> rfl))
    (apply sq_step; focus (simp [h6, e2, show 0 < m by omega] <;> rfl))
    (apply sq_step; focus (simp [szn] <;> rfl))
    (apply sq_step; focus (simp [] <;> rfl))
    rw [seq_nx h8]
    simp [sfE]
  · rw [rangeP_len] at h2
    rw [h2, ← hsh, ← hmany]
    exact List.take_of_length_le (by simp [szs])
def szB (sh m : Nat) : Bool := match szs sh ((sh + m - 1) / m) with
  | [] => false
  | n :: l => decide (n + l.sum = sh) && decide (l.length < 30) && decide (1 ≤ n) && decide (n ≤ 6)
theorem sz_facts : ((List.range 30).all fun sh => (List.range 6).all fun m => szB (sh + 1) (m + 1)) = true := by decide +kernel
theorem sz_ok {sh m : Nat} (h1 : 1 ≤ sh) (h2 : sh ≤ 30) (h3 : 1 ≤ m) (h4 : m ≤ 6) : ∃ n l, szs sh ((sh + m - 1) / m) = n :: l ∧ n + l.sum = sh ∧ l.length < 30 ∧ 1 ≤ n ∧ n ≤ 6 := by
  have h := sz_facts
  rw [List.all_eq_true] at h
  have h := h (sh - 1) (List.mem_range.mpr (by omega))
  rw [List.all_eq_true] at h
  have h := h (m - 1) (List.mem_range.mpr (by omega))
  rw [show sh - 1 + 1 = sh by omega, show m - 1 + 1 = m by omega] at h
  unfold szB at h
  split at h
  · cases h
  · rename_i n l e
    simp only [Bool.and_eq_true, decide_eq_true_eq] at h
    exact ⟨n, l, e, h.1.1.1, h.1.1.2, h.1.2, h.2⟩
/-! ### nested, sewn -/
def nestB (n : Nat) : Bool := match F_nested [.int (n : Int), .int 4] with
  | .ok (.lst rows) .non => rows.length == n
  | _ => false
theorem nest_facts : ((List.range 6).all fun n => nestB (n + 1)) = true := by decide +kernel
theorem F_nested_ok {n : Nat} (h1 : 1 ≤ n) (h2 : n ≤ 6) : ∃ rows, F_nested [.int (n : Int), .int 4] = .ok (.lst rows) .non ∧ rows.length = n := by
  have h := nest_facts
  rw [List.all_eq_true] at h
  have h := h (n - 1) (List.mem_range.mpr (by omega))
  rw [show n - 1 + 1 = n by omega] at h
  unfold nestB at h
  split at h
  · rename_i rows e
    exact ⟨rows, e, by simpa using h⟩
  · cases h
def kd : Nat → Str
  | 0 => "in"
  | 1 => "out"
  | 2 => "knot"
  | _ => "link"
def stP (s : Nat × Int × Int) : PV := .tup [.str (kd s.1), .int s.2.1, .int s.2.2]
def kdOf (x : Str) : Option Nat := if x = "in" then some 0 else if x = "out" then some 1 else if x = "knot" then some 2 else if x = "link" then some 3 else none
def steps? : List PV → Option (List (Nat × Int × Int))
  | [] => some []
  | .tup [.str x, .int i, .int j] :: r => (kdOf x).bind fun k => (steps? r).map ((k, i, j) :: ·)
  | _ => none
theorem kdOf_ok {x : Str} {k : Nat} (h : kdOf x = some k) : x = kd k := by
  unfold kdOf at h
  split at h
  · cases h; assumption
  · split at h
    · cases h; assumption
    · split at h
      · cases h; assumption
      · split at h
        · cases h; assumption
        · cases h
theorem steps_ok : ∀ {ps : List PV} {l : List (Nat × Int × Int)}, steps? ps = some l → ps = l.map stP := by
  intro ps
  induction ps with
  | nil => intro l h; cases h; rfl
  | cons p ps ih =>
    intro l h
    unfold steps? at h
    split at h
    · rename_i e; cases e
    · rename_i x i j r e
      cases e
      cases e1 : kdOf x with
      | none => rw [e1] at h; cases h
      | some k =>
        cases e2 : steps? ps with
        | none => rw [e1, e2] at h; cases h
        | some l2 =>
          rw [e1, e2] at h
          cases h
          rw [ih e2, kdOf_ok e1]
          rfl
    · cases h
theorem okD_st2 (s : Nat × Int × Int) : okD 2 (stP s) = true := by
  obtain ⟨k, i, j⟩ := s
  have h : okD 1 (.str (kd k)) = true := by
    unfold kd
    split <;> decide +kernel
  simp [stP, okD, okDs]
  simpa [okD] using h
theorem kd_str (k : Nat) : gEq (.str (kd k)) (.str "in") = some (.bl (k == 0)) ∧ gEq (.str (kd k)) (.str "knot") = some (.bl (k == 2)) ∧ gEq (.str (kd k)) (.str "link") = some (.bl (decide (3 ≤ k))) := by
  match k with
  | 0 => exact ⟨by kernel_rfl, by kernel_rfl, by kernel_rfl⟩
  | 1 => exact ⟨by kernel_rfl, by kernel_rfl, by kernel_rfl⟩
  | 2 => exact ⟨by kernel_rfl, by kernel_rfl, by kernel_rfl⟩
  | k + 3 =>
    refine ⟨?_, ?_, ?_⟩
    · rw [show ((k + 3 : Nat) == 0) = false by simp]; kernel_rfl
    · rw [show ((k + 3 : Nat) == 2) = false by simp]; kernel_rfl
    · rw [show decide (3 ≤ k + 3) = true by simp]; kernel_rfl
def sewB (n st : Nat) : Bool := match F_sewing [.int (n : Int), .int (st : Int)] with
  | .ok (.lst way) .non => (match steps? way with
    | some l => decide (l.length < 500) && decide (0 < l.length) && decide ((l.filter fun s => s.1 == 0).length * 2 = st * n) && decide ((l.filter fun s => s.1 == 2).length = if 1 < n then 1 else 0) && decide ((l.filter fun s => decide (3 ≤ s.1)).length = n - 2)
    | none => false)
  | _ => false
theorem sew4 : ((List.range 30).all fun n => sewB (n + 1) 4) = true := by decide +kernel
theorem sew6 : ((List.range 30).all fun n => sewB (n + 1) 6) = true := by decide +kernel
theorem sew8 : ((List.range 30).all fun n => sewB (n + 1) 8) = true := by decide +kernel
theorem F_sewing_ok {n st : Nat} (h1 : 1 ≤ n) (h2 : n ≤ 30) (h3 : st = 4 ∨ st = 6 ∨ st = 8) : ∃ l : List (Nat × Int × Int), F_sewing [.int (n : Int), .int (st : Int)] = .ok (.lst (l.map stP)) .non ∧ l.length < 500 ∧ 0 < l.length ∧ (l.filter fun s => s.1 == 0).length * 2 = st * n ∧ (l.filter fun s => s.1 == 2).length = (if 1 < n then 1 else 0) ∧ (l.filter fun s => decide (3 ≤ s.1)).length = n - 2 := by
  have h : sewB n st = true := by
    have go : ∀ st, ((List.range 30).all fun n => sewB (n + 1) st) = true → sewB n st = true := fun st h => by
      rw [List.all_eq_true] at h
      have h := h (n - 1) (List.mem_range.mpr (by omega))
      rwa [show n - 1 + 1 = n by omega] at h
    rcases h3 with rfl | rfl | rfl
    · exact go 4 sew4
    · exact go 6 sew6
    · exact go 8 sew8
  unfold sewB at h
  split at h
  · rename_i way e
    split at h
    · rename_i l e2
      simp only [Bool.and_eq_true, decide_eq_true_eq] at h
      rw [steps_ok e2] at e
      exact ⟨l, e, h.1.1.1.1, h.1.1.1.2, h.1.1.2, h.1.2, h.2⟩
    · cases h
  · cases h
theorem F_check_sew_ok {n st : Nat} (h1 : 1 ≤ n) (h2 : n ≤ 30) (h3 : st = 4 ∨ st = 6 ∨ st = 8) : F_check_sewing [.int (n : Int), .int (st : Int)] = .ok .non .non := by
  refine run_nx (ρ := [.sh (.int (n : Int)), .sh (.int (st : Int))]) (env := [.sh (.int (n : Int)), .sh (.int (st : Int))]) ?_
  rcases h3 with rfl | rfl | rfl <;> simp [den_check_sewing, show n ≠ 0 by omega, show ¬ (n : Int) < 1 by omega, show ¬ 500 < (n : Int) by omega, c_MOST_SECTIONS, c_MOST_STATIONS]
theorem okD_steps {l : List (Nat × Int × Int)} (h : l.length < 500) : okD 3 (.lst (l.map stP)) = true := okD_lst (by simp; omega) (okDs_map fun s _ => okD_st2 s)
theorem F_judge_ok {n st : Nat} {l m : List (Nat × Int × Int)} {b : Bool} (h1 : 1 ≤ n) (h2 : n ≤ 30) (h3 : st = 4 ∨ st = 6 ∨ st = 8) (hl : F_sewing [.int (n : Int), .int (st : Int)] = .ok (.lst (l.map stP)) .non) (hm : m.length < 500) (hb : gEq (.lst (m.map stP)) (.lst (l.map stP)) = some (.bl b)) :
    F_judge_sewing [.int (n : Int), .int (st : Int), .lst (m.map stP)] = .ok (.bl b) .non := by
  refine run_rt (env := [.sh (.int (n : Int)), .sh (.int (st : Int)), .sh (.lst (m.map stP)), .un]) (ρ := [.sh (.int (n : Int)), .sh (.int (st : Int)), .sh (.lst (m.map stP)), .un]) ?_
  have e := lc_pure (i := 3) (E := E_judge_sewing_1) (ρ := [.sh (.int (n : Int)), .sh (.int (st : Int)), .sh (.lst (m.map stP)), .un]) stP stP m rfl rfl fun s _ => by simp [E_judge_sewing_1, stP]
  simp [den_judge_sewing, F_check_sew_ok h1 h2 h3, lockE, e, show m.length ≤ 1000000 by omega, ap_backE, backR, hl, hb]
theorem F_creep_ok {n : Nat} {t : Int} (hn : 1 ≤ n) (hn2 : n ≤ 6) (ht : 1 ≤ t) (ht2 : t ≤ 40) : F_creep [.int (n : Int), .int t] = .ok (.lst ((List.range n).map fun (i : Nat) => PV.int (t * (i : Int)))) .non := by
  refine run_rt (env := [.sh (.int (n : Int)), .sh (.int t), .un]) (ρ := [.sh (.int (n : Int)), .sh (.int t), .un]) ?_
  have e := lc_pureR (i := 2) (n := n) (E := E_creep_1) (ρ := [.sh (.int (n : Int)), .sh (.int t), .un]) (fun i => PV.int (t * (i : Int))) rfl rfl fun i _ => by
    simp [E_creep_1, smI (i := t) (by omega) (by omega), Int.mul_comm]
  simp [den_creep, rg1_nat (show n ≤ 1000000000 by omega), lockE, e, show n ≤ 1000000 by omega, ap_backE, backR, show n ≠ 0 by omega, show ¬ (n : Int) < 1 by omega, show ¬ t < 0 by omega]
def plc (st : Nat) : List Int := (List.range st).map fun (i : Nat) => 100 * (i : Int) + 7
theorem F_thread_ok {n st : Nat} {t : Int} (hn : 1 ≤ n) (hn2 : n ≤ 30) (ht : 1 ≤ t) (ht2 : t ≤ 40) (h3 : st = 4 ∨ st = 6 ∨ st = 8) : F_thread_length [.int (n : Int), .int t, .lst ((plc st).map .int)] = .ok (.int ((n : Int) * (100 * ((st : Int) - 1)) + ((n : Int) - 1) * t)) .non := by
  have hs := smI (i := t) (by omega) (by omega)
  have hs2 := smI (i := (n : Int)) (by omega) (by omega)
  have go : ∀ (l : List Int) (z : Int), gNe (.lst (l.map .int)) (.lst ((sortU l).map .int)) = some (.bl false) → (sortU l).length < 64 → l.length < 64 → 4 ≤ l.length → l.length % 2 = 0 → L2.atI (l.map PV.int) (-1) = some (.int z) → L2.atI (l.map PV.int) 0 = some (.int 7) →
      F_thread_length [.int (n : Int), .int t, .lst (l.map .int)] = .ok (.int ((n : Int) * (z - 7) + ((n : Int) - 1) * t)) .non := by
    intro l z e1 e4 e7 e8 e9 e5 e6
    refine run_rt (env := [.sh (.int (n : Int)), .sh (.int t), .sh (.lst (l.map .int))]) (ρ := [.sh (.int (n : Int)), .sh (.int t), .sh (.lst (l.map .int))]) ?_
    have e3 : intsOf (.lst (l.map .int)) = some l := ints_map _
    simp [den_thread_length, show n ≠ 0 by omega, show ¬ (n : Int) < 1 by omega, show ¬ t < 0 by omega, e1, e3, e4, show l.length ≤ 4000 by omega, e5, e6, hs, hs2, show ¬ (l.length : Int) < 4 by omega, show ¬ l.length < 4 by omega, show ¬ (l.length : Int) % 2 = 1 by omega]
  rcases h3 with rfl | rfl | rfl
  · exact go [7, 107, 207, 307] 307 (by kernel_rfl) (by decide) (by decide) (by decide) (by decide) rfl rfl
  · exact go [7, 107, 207, 307, 407, 507] 507 (by kernel_rfl) (by decide) (by decide) (by decide) (by decide) rfl rfl
  · exact go [7, 107, 207, 307, 407, 507, 607, 707] 707 (by kernel_rfl) (by decide) (by decide) (by decide) (by decide) rfl rfl
theorem frac_ne (a b : Int) : gNe (plainP (frac a b)) (plainP (frac a b)) = some (.bl false) := plain_ne (n := 3) (by simp [frac, okD, okDs]) (by omega)
theorem okD_frac (a b : Int) : okD 3 (frac a b) = true := by simp [frac, okD, okDs]
theorem int_ne (a : Int) : gNe (plainP (.int a)) (plainP (.int a)) = some (.bl false) := plain_ne (n := 3) (by simp [okD, okDs]) (by omega)
theorem pl_frac (a b : Int) : F_plain_ 3 [frac a b] = .ok (plainP (frac a b)) .non := F_plain_eq 3 _ (okD_frac a b)
theorem pl_int (a : Int) : F_plain_ 3 [.int a] = .ok (plainP (.int a)) .non := F_plain_eq 3 _ rfl
theorem sum_cast : ∀ l : List Nat, (l.map fun n : Nat => (n : Int)).sum = ((l.sum : Nat) : Int)
  | [] => rfl
  | n :: l => by simp only [List.map_cons, List.sum_cons, sum_cast l]; omega
theorem int_eq (a : Int) : gEq (plainP (.int a)) (plainP (.int a)) = some (.bl true) := gEq_same (n := 3) (by simp [plainP, okD, okDs]) (by omega)
theorem top_ok : F_top := by
  intro ns hns
  obtain ⟨ds0, e0⟩ := F_deck_eq (ns := ns) (c := 40) (e := 14) (by rw [sizeLine_eq]; omega) (by omega) (by omega)
  generalize ha0 : PV.klst (ns.map .int) = a0 at *
  have e0 : F_deck [a0, .int 40, .int 14] = .ok (dk ds0) .non := e0
  obtain ⟨v1, ds1, h1, t1⟩ := take_nat ds0 120 (by omega)
  obtain ⟨v2, ds2, h2, t2⟩ := take_nat ds1 6 (by omega)
  obtain ⟨v3, ds3, h3, t3⟩ := take_nat ds2 100 (by omega)
  obtain ⟨v4, ds4, h4, t4⟩ := take_nat ds3 80 (by omega)
  obtain ⟨v5, ds5, h5, t5⟩ := take_nat ds4 200 (by omega)
  obtain ⟨v6, ds6, h6, t6⟩ := take_nat ds5 200 (by omega)
  obtain ⟨v7, ds7, h7, t7⟩ := take_nat ds6 200 (by omega)
  obtain ⟨v8, ds8, h8, t8⟩ := take_nat ds7 2000 (by omega)
  obtain ⟨v9, ds9, h9, t9⟩ := take_nat ds8 40 (by omega)
  obtain ⟨v10, ds10, h10, t10⟩ := take_nat ds9 3 (by omega)
  have t1 : F_take [dk ds0, .int 120] = .ok (.int (v1 : Int)) (dk ds1) := t1
  have t2 : F_take [dk ds1, .int 6] = .ok (.int (v2 : Int)) (dk ds2) := t2
  have t3 : F_take [dk ds2, .int 100] = .ok (.int (v3 : Int)) (dk ds3) := t3
  have t4 : F_take [dk ds3, .int 80] = .ok (.int (v4 : Int)) (dk ds4) := t4
  have t5 : F_take [dk ds4, .int 200] = .ok (.int (v5 : Int)) (dk ds5) := t5
  have t6 : F_take [dk ds5, .int 200] = .ok (.int (v6 : Int)) (dk ds6) := t6
  have t7 : F_take [dk ds6, .int 200] = .ok (.int (v7 : Int)) (dk ds7) := t7
  have t8 : F_take [dk ds7, .int 2000] = .ok (.int (v8 : Int)) (dk ds8) := t8
  have t9 : F_take [dk ds8, .int 40] = .ok (.int (v9 : Int)) (dk ds9) := t9
  have t10 : F_take [dk ds9, .int 3] = .ok (.int (v10 : Int)) (dk ds10) := t10
  obtain ⟨p, hp⟩ : ∃ p : Nat, p = 1 + v1 := ⟨_, rfl⟩
  obtain ⟨m, hm⟩ : ∃ m : Nat, m = 1 + v2 := ⟨_, rfl⟩
  obtain ⟨g, hg⟩ : ∃ g : Int, g = 40 + (v3 : Int) := ⟨_, rfl⟩
  obtain ⟨b, hb⟩ : ∃ b : Int, b = 90 + (v4 : Int) := ⟨_, rfl⟩
  obtain ⟨w, hw⟩ : ∃ w : Int, w = 1000 + 100 * (v5 : Int) := ⟨_, rfl⟩
  obtain ⟨hh, hhh⟩ : ∃ hh : Int, hh = 1000 + 100 * (v6 : Int) := ⟨_, rfl⟩
  obtain ⟨cv, hcv⟩ : ∃ cv : Int, cv = 100 + (v7 : Int) := ⟨_, rfl⟩
  obtain ⟨lim, hlim⟩ : ∃ lim : Int, lim = (v8 : Int) := ⟨_, rfl⟩
  obtain ⟨th, hth⟩ : ∃ th : Int, th = 1 + (v9 : Int) := ⟨_, rfl⟩
  obtain ⟨st, hst⟩ : ∃ st : Nat, st = 4 + 2 * v10 := ⟨_, rfl⟩
  have cp : 1 + (v1 : Int) = (p : Int) := by omega
  have cm : 1 + (v2 : Int) = (m : Int) := by omega
  have cst : 4 + 2 * (v10 : Int) = (st : Int) := by omega
  obtain ⟨xss, b1, b2⟩ := F_sections_ok (p := p) (m := m) (by omega) (by omega) (by omega) (by omega)
  obtain ⟨sh, hsh⟩ : ∃ sh : Nat, sh = (p + 3) / 4 := ⟨_, rfl⟩
  rw [← hsh] at b2
  obtain ⟨n0, ls, c1, c2, c3, c4, c5⟩ := sz_ok (sh := sh) (m := m) (by omega) (by omega) (by omega) (by omega)
  rw [c1] at b2
  obtain ⟨lv, hlv⟩ : ∃ lv : Int, lv = ((p : Int) + 1) / 2 := ⟨_, rfl⟩
  have L := F_leaves_ok (a := (p : Int)) (by omega)
  rw [← hlv] at L
  have hN : xss.length = ls.length + 1 := by
    have := congrArg List.length b2
    simpa using this
  obtain ⟨x0, hx0, hn0⟩ : ∃ x0, L2.atI (xss.map PV.lst) 0 = some (.lst x0) ∧ x0.length = n0 := by
    cases xss with
    | nil => cases b2
    | cons x0 xs =>
      simp only [List.map_cons, List.cons.injEq] at b2
      exact ⟨x0, at0 _ _, b2.1⟩
  have sumE : gSumN [.lst (xss.map fun x => .int (x.length : Int))] = some (.int (sh : Int)) := by
    simp only [gSumN, ints_mapF, Option.map_some]
    have e : (xss.map fun x => (x.length : Int)) = (xss.map (·.length)).map fun n : Nat => (n : Int) := by simp
    rw [e, b2, sum_cast, List.sum_cons, c2]
  obtain ⟨sp, hsp⟩ : ∃ sp : Int, sp = -((-(g * b * lv)) / 1000) := ⟨_, rfl⟩
  have S := F_spine_ok (p := (p : Int)) (g := g) (b := b) (by omega) (by omega) (by omega) (by omega) (by omega)
  rw [← hlv, ← hsp] at S
  have T1 := F_thickness_ok (g := g) (b := b) (l := lv) (by omega) (by omega) (by omega) (by omega) (by omega)
  have eqA : lv * g * b = g * b * lv := by ac_rfl
  have nA : -(-lv * g * b / 1000) = sp := by rw [hsp, Int.neg_mul, Int.neg_mul, eqA]
  have pos1 : 0 ≤ g * b * lv := Int.mul_nonneg (Int.mul_nonneg (by omega) (by omega)) (by omega)
  have T2 := F_lfrac_ok (a := g * b * lv) (b := 1000) pos1 (by omega) (by omega)
  have hb1 : Nat.log2 1000 < 9000 := by decide
  have hb2 : Nat.log2 2 < 9000 := by decide
  have sm_g := smI (i := g) (by omega) (by omega)
  have sm_b := smI (i := b) (by omega) (by omega)
  have sm_w := smI (i := w) (by omega) (by omega)
  have sm_h := smI (i := hh) (by omega) (by omega)
  have sm_sh := smI (i := (sh : Int)) (by omega) (by omega)
  have sm_2 := smI (i := 2) (by omega) (by omega)
  have sm_100 := smI (i := 100) (by omega) (by omega)
  have sm_M := smI (i := 10000000000) (by omega) (by omega)
  have sm_th := smI (i := th) (by omega) (by omega)
  have W1 := F_weight_ok (w := w) (h := hh) (g := g) (s := 2 * (sh : Int)) (by omega) (by omega) (by omega) (by omega) (by omega) (by omega) (by omega)
  have W2 := F_weight_ok (w := 2 * w) (h := hh) (g := g) (s := (sh : Int)) (by omega) (by omega) (by omega) (by omega) (by omega) (by omega) (by omega)
  have eqB : 2 * w * hh * g * (sh : Int) = w * hh * g * (2 * (sh : Int)) := by ac_rfl
  have eqC : 2 * (sh : Int) * w * hh * g = w * hh * g * (2 * (sh : Int)) := by ac_rfl
  rw [eqB] at W2
  have pos2 : 0 ≤ w * hh * g := Int.mul_nonneg (Int.mul_nonneg (by omega) (by omega)) (by omega)
  have T3 := F_lfrac_ok (a := w * hh * g * (2 * (sh : Int))) (b := 10000000000) (Int.mul_nonneg pos2 (by omega)) (by omega) (by omega)
  have pos3 : 0 ≤ sp := by
    rw [hsp]
    generalize g * b * lv = X at *
    omega
  have W3 := F_weight_ok (w := w) (h := hh) (g := g) (s := lv) (by omega) (by omega) (by omega) (by omega) (by omega) (by omega) (by omega)
  have W4 := F_weight_ok (w := 2 * w + sp) (h := hh) (g := cv) (s := 1) (by omega) (by omega) (by omega) (by omega) (by omega) (by omega) (by omega)
  have W5 := F_bookw_ok (w := w) (h := hh) (p := (p : Int)) (g := g) (b := b) (c := cv) (by omega) (by omega) (by omega) (by omega) (by omega) (by omega) (by omega) (by omega) (by omega) (by omega) (by omega) (by omega)
  rw [← hlv, ← hsp] at W5
  have W6 := F_most_ok (w := w) (h := hh) (p := (p : Int)) (l := lim) (by omega) (by omega) (by omega) (by omega) (by omega) (by omega) (by omega)
  rw [← hlv] at W6
  obtain ⟨D, hD⟩ : ∃ D, D = lv * w * hh := ⟨_, rfl⟩
  rw [← hD] at W6
  have posD : 0 < D := by rw [hD]; exact Int.mul_pos (Int.mul_pos (by omega) (by omega)) (by omega)
  obtain ⟨gr, hgr⟩ : ∃ gr, gr = lim * 10000000000 / D := ⟨_, rfl⟩
  rw [← hgr] at W6
  have gr1 : ¬ lim * 10000000000 < D * gr := by
    have := Int.mul_ediv_self_le (x := lim * 10000000000) (k := D) (by omega)
    rw [hgr]; omega
  have gr2 : ¬ D * (gr + 1) ≤ lim * 10000000000 := by
    have := Int.lt_ediv_add_one_mul_self (lim * 10000000000) posD
    rw [hgr, Int.mul_comm D]; omega
  have gr3 : 0 ≤ gr := by rw [hgr]; exact Int.ediv_nonneg (by omega) (by omega)
  have gr4 : gr ≤ lim * 10000000000 := by rw [hgr]; exact Int.ediv_le_self _ (by omega)
  have sm_gr := smI (i := gr) (by omega) (by omega)
  have sm_gr1 := smI (i := gr + 1) (by omega) (by omega)
  obtain ⟨I, hI⟩ : ∃ I, I = w * hh * g * lv := ⟨_, rfl⟩
  obtain ⟨O, hO⟩ : ∃ O, O = (2 * w + sp) * hh * cv * 1 := ⟨_, rfl⟩
  rw [← hI] at W3
  rw [← hO] at W4
  have pI : 0 ≤ I := by rw [hI]; exact Int.mul_nonneg pos2 (by omega)
  have pO : 0 ≤ O := by rw [hO]; exact Int.mul_nonneg (Int.mul_nonneg (Int.mul_nonneg (by omega) (by omega)) (by omega)) (by omega)
  have eqD : lv * w * hh * g + (2 * w + sp) * hh * cv = I + O := by
    have e : lv * w * hh * g = w * hh * g * lv := by ac_rfl
    rw [hI, hO, Int.mul_one, e]
  rw [eqD] at W5
  have sumF := frac_sum (I := I) (O := O) (M := 10000000000) (by omega)
  have q1 : 0 < 10000000000 / gd I 10000000000 := Int.ediv_pos_of_pos_of_dvd (by omega) (Int.le_of_lt (gd_pos (by omega))) (gd_dvd_r _ _)
  have q2 : 0 < 10000000000 / gd O 10000000000 := Int.ediv_pos_of_pos_of_dvd (by omega) (Int.le_of_lt (gd_pos (by omega))) (gd_dvd_r _ _)
  have q3 : 10000000000 / gd I 10000000000 ≤ 10000000000 := Int.ediv_le_self _ (by omega)
  have q4 : 10000000000 / gd O 10000000000 ≤ 10000000000 := Int.ediv_le_self _ (by omega)
  have q5 : 0 ≤ I / gd I 10000000000 := Int.ediv_nonneg pI (Int.le_of_lt (gd_pos (by omega)))
  have q6 : 0 ≤ O / gd O 10000000000 := Int.ediv_nonneg pO (Int.le_of_lt (gd_pos (by omega)))
  have i1 : gIx (frac I 10000000000) (.int 0) = some (.int (I / gd I 10000000000)) := at0 _ _
  have i2 : gIx (frac I 10000000000) (.int 1) = some (.int (10000000000 / gd I 10000000000)) := at1 _ _ _
  have i3 : gIx (frac O 10000000000) (.int 0) = some (.int (O / gd O 10000000000)) := at0 _ _
  have i4 : gIx (frac O 10000000000) (.int 1) = some (.int (10000000000 / gd O 10000000000)) := at1 _ _ _
  generalize 10000000000 / gd I 10000000000 = m1 at *
  generalize 10000000000 / gd O 10000000000 = m2 at *
  generalize I / gd I 10000000000 = i' at *
  generalize O / gd O 10000000000 = o' at *
  have sm_m1 := smI (i := m1) (by omega) (by omega)
  have sm_m2 := smI (i := m2) (by omega) (by omega)
  have q7 := mulB (a := m1) (b := m2) (A := 10000000000) (B := 10000000000) (by omega) (by omega) (by omega) (by omega)
  have T4 := F_lfrac_ok (a := i' * m2 + o' * m1) (b := m1 * m2) (Int.add_nonneg (Int.mul_nonneg q5 (by omega)) (Int.mul_nonneg q6 (by omega))) (Int.mul_pos q1 q2) (by omega)
  rw [sumF] at T4
  have neS := gNe_same (okD_frac (I + O) 10000000000) (by omega)
  obtain ⟨rows, r1, r2⟩ := F_nested_ok (n := n0) c4 c5
  obtain ⟨N, hN2⟩ : ∃ N, N = xss.length := ⟨_, rfl⟩
  have hst3 : st = 4 ∨ st = 6 ∨ st = 8 := by omega
  obtain ⟨l, w1, w2, w3, w4, w5, w6⟩ := F_sewing_ok (n := N) (st := st) (by omega) (by omega) hst3
  have okL := okD_steps w2
  have J1 := F_judge_ok (b := true) (by omega) (by omega) hst3 w1 w2 (gEq_same okL (by omega))
  have J2 := F_judge_ok (m := l.drop 1) (b := false) (by omega) (by omega) hst3 w1 (by simp; omega) (by
    rw [gEq_of (okD_steps (l := l.drop 1) (by simp; omega)) okL (by omega), pvEq_lst]
    cases e : pvEqs ((l.drop 1).map stP) (l.map stP) with
    | false => rfl
    | true =>
      have := pvEqs_len e
      simp at this
      omega)
  have cutE : cutP (l.map stP) (some 1) none = (l.map stP).tail := by
    rw [← List.drop_one]
    exact cutP_lo (l.map stP) 1
  have J2 : F_judge_sewing [.int (N : Int), .int (st : Int), .lst (l.map stP).tail] = .ok (.bl false) .non := by
    rw [← List.drop_one, ← List.map_drop]
    exact J2
  have w4i : ((((l.filter fun s => s.1 == 0).length : Nat) : Int)) * 2 = (st : Int) * (N : Int) := by
    have := congrArg (fun n : Nat => (n : Int)) w4
    simpa using this
  obtain ⟨kn, hkn⟩ : ∃ kn : Int, kn = if 1 < (N : Int) then 1 else 0 := ⟨_, rfl⟩
  have w5i : ((((l.filter fun s => s.1 == 2).length : Nat) : Int)) = kn := by
    rw [w5, hkn]
    by_cases h : 1 < N
    · rw [if_pos h, if_pos (by omega)]; rfl
    · rw [if_neg h, if_neg (by omega)]; rfl
  obtain ⟨lk, hlk⟩ : ∃ lk : Int, lk = if 0 > (N : Int) - 2 then 0 else (N : Int) - 2 := ⟨_, rfl⟩
  have w6i : ((((l.filter fun s => decide (3 ≤ s.1)).length : Nat) : Int)) = lk := by
    rw [w6, hlk]
    split <;> omega
  have kE : (if 1 < (N : Int) then (1 : Int) else 0) = kn := hkn.symm
  have lE : (if (N : Int) - 2 < 0 then (0 : Int) else (N : Int) - 2) = lk := hlk.symm
  have neT := gNe_same (n := 2) (p := .tup [.int kn, .int lk]) (by simp [okD, okDs]) (by omega)
  have plE : ((List.range st).map fun (i : Nat) => PV.int (100 * (i : Int) + 7)) = (plc st).map PV.int := by simp [plc]
  have ix0 : L2.atI ((plc st).map PV.int) 0 = some (.int 7) := by rcases hst3 with e | e | e <;> rw [e] <;> rfl
  have ixl : L2.atI ((plc st).map PV.int) (-1) = some (.int (100 * ((st : Int) - 1) + 7)) := by rcases hst3 with e | e | e <;> rw [e] <;> rfl
  have CR := F_creep_ok (n := n0) (t := th) c4 c5 (by omega) (by omega)
  have okC : okD 2 (.lst ((List.range n0).map fun (i : Nat) => PV.int (th * (i : Int)))) = true := okD_lst (by simp; omega) (okDs_map fun _ _ => rfl)
  have neC := gNe_same okC (by omega)
  have TH := F_thread_ok (n := N) (st := st) (t := th) (by omega) (by omega) (by omega) (by omega) hst3
  have sm_N := smI (i := (N : Int)) (by omega) (by omega)
  have sm_st := smI (i := (st : Int)) (by omega) (by omega)
  refine ⟨.non, ?_⟩
  refine run_rt (env := .sh a0 :: List.replicate 29 .un) (ρ := ?_) ?_
  rotate_left
  · unfold den_law
    simp only [List.replicate]
    (apply sq_step; focus (simp [e0] <;> rfl))
    (apply sq_step; focus (simp [t1, cp] <;> rfl))
    (apply sq_step; focus (simp [t2, cm] <;> rfl))
    (apply sq_step; focus (simp [t3, ← hg] <;> rfl))
    (apply sq_step; focus (simp [t4, ← hb] <;> rfl))
    (apply sq_step; focus (simp [b1] <;> rfl))
    apply sq_step
    · simp [lockE]
      rw [lc_pure PV.lst (fun x => .int (x.length : Int)) xss]
      · simp [sumE, ap_backE, backR, show xss.length ≤ 1000000 by omega]
        rfl
      · rfl
      · rfl
      · intro c _
        simp [E_law_1]
    (apply sq_step; focus (simp [L] <;> rfl))
    (apply sq_step; focus (simp [hb2, ← hlv, sm_2, show 2 * (sh : Int) - 1 ≤ lv by omega, show lv ≤ 2 * (sh : Int) by omega] <;> rfl))
    (apply sq_step; focus (simp [T1, sm_g, sm_b, eqA, T2, pl_frac, frac_ne] <;> rfl))
    (apply sq_step; focus (simp [S, sm_g, sm_b, nA, hb1, pl_int, int_ne] <;> rfl))
    (apply sq_step; focus (simp [t5, sm_100, ← hw] <;> rfl))
    (apply sq_step; focus (simp [t6, sm_100, ← hhh] <;> rfl))
    (apply sq_step; focus (simp [sm_2, W1] <;> rfl))
    (apply sq_step; focus (simp [sm_2, W2, pl_frac, frac_ne] <;> rfl))
    (apply sq_step; focus (simp [sm_2, sm_w, sm_h, sm_g, eqC, T3, pl_frac, frac_ne] <;> rfl))
    (apply sq_step; focus (simp [t7, ← hcv] <;> rfl))
    (apply sq_step; focus (simp [sm_2, S] <;> rfl))
    (apply sq_step; focus (simp [W3] <;> rfl))
    (apply sq_step; focus (simp [W4] <;> rfl))
    (apply sq_step; focus (simp [i1, i2, i3, i4, sm_m1, sm_m2] <;> rfl))
    (apply sq_step; focus (simp [i1, i2, i3, i4, sm_m1, sm_m2, W5, T4, neS] <;> rfl))
    (apply sq_step; focus (simp [t8, ← hlim] <;> rfl))
    (apply sq_step; focus (simp [W6] <;> rfl))
    (apply sq_step; focus (simp [sm_w, sm_h, sm_gr, sm_M, ← hD, gr1] <;> rfl))
    (apply sq_step; focus (simp [sm_w, sm_h, sm_gr1, sm_M, ← hD, gr2] <;> rfl))
    (apply sq_step; focus (simp [hx0, hn0, r1] <;> rfl))
    (apply sq_step; focus (simp [t9, ← hth] <;> rfl))
    apply sq_step
    · simp [r2, hx0, hn0, CR, rg1_nat (show n0 ≤ 1000000000 by omega), lockE]
      rw [lc_pureR (fun (i : Nat) => .int (th * (i : Int)))]
      · simp [neC, ap_backE, backR, show n0 ≤ 1000000 by omega]
        rfl
      · rfl
      · rfl
      · intro c _
        simp [E_law_2, sm_th]
    (apply sq_step; focus (simp [t10, sm_2, cst] <;> rfl))
    (apply sq_step; focus (simp [← hN2, w1] <;> rfl))
    (apply sq_step; focus (simp [← hN2, J1, cutE, J2, gIsBB, gIsB] <;> rfl))
    apply sq_step
    · simp [lockE]
      rw [lc_pureF stP stP (fun s => s.1 == 0) l]
      · have ln := List.length_filter_le (fun s : Nat × Int × Int => s.1 == 0) l
        simp [ap_backE, backR, sm_N, sm_2, ← hN2, w4i, show (l.filter fun s => s.1 == 0).length ≤ 1000000 by omega]
        rfl
      · rfl
      · rfl
      · intro c _
        simp [T_law_3, stP, at0, kd_str]
      · intro c _ _
        simp [E_law_3]
    apply sq_step
    · simp [lockE]
      rw [lc_pureF stP stP (fun s => s.1 == 2) l]
      · have ln := List.length_filter_le (fun s : Nat × Int × Int => s.1 == 2) l
        simp [ap_backE, backR, w5i, show (l.filter fun s => s.1 == 2).length ≤ 1000000 by omega]
        rfl
      · rfl
      · rfl
      · intro c _
        simp [T_law_4, stP, at0, kd_str]
      · intro c _ _
        simp [E_law_4]
    apply sq_step
    · simp [lockE]
      rw [lc_pureF stP stP (fun s => decide (3 ≤ s.1)) l]
      · have ln := List.length_filter_le (fun s : Nat × Int × Int => decide (3 ≤ s.1)) l
        simp [ap_backE, backR, w6i, show (l.filter fun s => decide (3 ≤ s.1)).length ≤ 1000000 by omega]
        rfl
      · rfl
      · rfl
      · intro c _
        simp [T_law_5, stP, at0, kd_str]
      · intro c _ _
        simp [E_law_5]
    (apply sq_step; focus (simp [← hN2, szn (show 2 ≤ 1000000 by omega), kE, lE, neT] <;> rfl))
    apply sq_step
    · simp [lockE, rg1_nat (show st ≤ 1000000000 by omega)]
      rw [lc_pureR (fun (i : Nat) => .int (100 * (i : Int) + 7))]
      · simp [ap_backE, backR, show (plc st).length ≤ 1000000 by simp [plc]; omega, plE]
        rfl
      · rfl
      · rfl
      · intro c _
        simp [E_law_6, sm_100]
    (apply sq_step; focus (simp [← hN2, ixl, ix0, sm_N, sm_th] <;> rfl))
    simp [← hN2, TH, pl_int, int_eq]
    rfl
end PL.K91

set_option Elab.async false
set_option linter.all false
set_option maxRecDepth 100000
set_option maxHeartbeats 0
open PySem PySem.W PySem.Calls PyProof.Rows
theorem PySem.Challenge.cw_presswork_k91_whole_books_weighed_and_se_holds : PySem.Challenge.rw_presswork_k91_whole_books_weighed_and_se.Holds := by
  w_on; o_law
  refine HandSHeadRun.head_imp (H := PL.K91.hk) (ob := PL.K91.ob) (d := HandSHeadRun.topDef (OpenLaw.row PySem.Challenge.rw_presswork_k91_whole_books_weighed_and_se).prog 43) (kwd := []) PL.K91.ob_eq
     PL.K91.run (by kernel_rfl) (by kernel_rfl) (by kernel_rfl) (by rfl) (by first | assumption | decide +kernel) (by decide +kernel) ⟨rfl, rfl, rfl, rfl, rfl, by decide +kernel⟩ ?hw ?hc
  case hw => w_witness2
  case hc =>
    refine L2.walk_ofE (l := PySem.Challenge.rw_presswork_k91_whole_books_weighed_and_se) (n := 63) (k := 7) (x := "script") (CX := PL.CXA PySem.Challenge.pw_presswork_k91_whole_books_weighed_and_se) rfl (by decide) (by kernel_rfl) ⟨rfl, by decide, by decide⟩ ?F PL.CXA.none
    case F =>
      intro w mg fa h Y G hmg0
      obtain ⟨K, KX, c⟩ := Y
      have hmg : mg ("law" : PySem.Str) = some (.ref fa) := by
        have e : (HandSHeadRun.topDef (OpenLaw.row PySem.Challenge.rw_presswork_k91_whole_books_weighed_and_se).prog 43).name = ("law" : PySem.Str) := by kernel_rfl
        rw [← e]
        exact hmg0
      obtain ⟨fd, hb, hF⟩ := PL.K91.facts PL.K91.top_ok (P := PySem.Challenge.pw_presswork_k91_whole_books_weighed_and_se) (w := w) KX G hmg c
      exact ⟨K, fd, PL.spTop K, KX, hb, fun H a ns hl _ hS => ⟨a, ns, rfl, hl, hS, fun _ => rfl⟩, fun base h1 h2 => PL.FnOk.anyW (hF base h1 h2)⟩

