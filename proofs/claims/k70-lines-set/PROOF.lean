import PyProof.Rows.All
import HandS.ForMost
import HandS.ForExc
import HandS.CallSlots
import HandS.HeadHook1
import HandS.TupAny
import HandS.Deep
import HandS.IsInst
import HandS.ExcInit
import HandS.ExcField
import HandS.TryMany
import HandS.SortInts
import HandS.Wide
import HandS.Flow
import HandS.ExcOwn
import HandS.Defaults
import HandS.HeadHook4
import HandS.HeadEnd
import HandS.Head2
import HandS.Style
import HandS.Gcd
import HandS.Conv
import HandS.SetFor
import HandS.Strs
import HandS.Codes
import KE.DataCmp
import KE.SortData
import KE.DataMinMax
import HandS.Small
import HandS.DictComp
import HandS.Head3
import PySem.Challenge.RW_presswork_k70_whole_lines_set
set_option Elab.async false
set_option linter.all false
set_option maxRecDepth 100000
set_option maxHeartbeats 4000000
namespace PL
open PySem PySem.Spec L2
set_option autoImplicit false

/-! ### plain values and how the heap bears them -/
inductive PV where
  | non | bl (b : Bool) | int (i : Int) | str (x : Str) | lst (xs : List PV) | tup (xs : List PV) | ktup (xs : List PV) | klst (xs : List PV) | dic (t : Bool) (ks : List PV) (vs : List PV) | fn (a : Str)
instance : Inhabited PV := ⟨.non⟩

def keyPV : Key → PV
  | .inl i => .int i
  | .inr x => .str x
mutual
inductive Rep (K : PySem.W.Frag) (S : Hp) : PV → V → Prop
  | non : Rep K S .non .non
  | bl (b : Bool) : Rep K S (.bl b) (.bl b)
  | int (i : Int) : Rep K S (.int i) (.int i)
  | str (x : Str) : Rep K S (.str x) (.str x)
  | fn (a : Str) : Rep K S (.fn a) (.ref (He.ga K a))
  | lst {a : Addr} {vs : List V} {ps : List PV} : S a = some (.lst vs) → RepL K S ps vs → Rep K S (.lst ps) (.ref a)
  | tup {a : Addr} {vs : List V} {ps : List PV} : S a = some (.tup vs) → RepL K S ps vs → Rep K S (.tup ps) (.ref a)
  | ktup {a : Addr} {vs : List V} {ps : List PV} : SqT K S a vs → RepL K S ps vs → Rep K S (.ktup ps) (.ref a)
  | klst {a : Addr} {vs : List V} {ps : List PV} : SqL K S a vs → RepL K S ps vs → Rep K S (.klst ps) (.ref a)
  | dK {a : Addr} {kvs : List (Key × V)} {ps : List PV} : Rd S a (.dK kvs) → RepL K S ps (kvs.map (·.2)) → Rep K S (.dic false (kvs.map fun p => keyPV p.1) ps) (.ref a)
  | dT {a : Addr} {kvs : List (List Key × V)} {ps : List PV} : Rd S a (.dT kvs) → RepL K S ps (kvs.map (·.2)) → Rep K S (.dic true (kvs.map fun p => .tup (p.1.map keyPV)) ps) (.ref a)
inductive RepL (K : PySem.W.Frag) (S : Hp) : List PV → List V → Prop
  | nil : RepL K S [] []
  | cons {p : PV} {v : V} {ps : List PV} {vs : List V} : Rep K S p v → RepL K S ps vs → RepL K S (p :: ps) (v :: vs)
end
theorem _root_.L2.Rd.same {H H' : Hp} {a : Addr} {u : HO} (h : Rd H a u) (e : Same H H') : Rd H' a u := by
  rcases h with h | ⟨o, h⟩
  · exact .inl (e _ _ h)
  · exact .inr ⟨o, e _ _ h⟩
theorem Same.tupK {K : PySem.W.Frag} {H H' : Hp} {a : Addr} {xs : List V} (e : Same H H') (h : SqT K H a xs) : SqT K H' a xs := by
  rcases h with (h | ⟨o, h⟩) | h
  · exact .inl (.inl (e _ _ h))
  · exact .inl (.inr ⟨o, e _ _ h⟩)
  · exact .inr h
theorem Same.lstK {K : PySem.W.Frag} {H H' : Hp} {a : Addr} {xs : List V} (e : Same H H') (h : SqL K H a xs) : SqL K H' a xs := by
  rcases h with (h | ⟨o, h⟩) | h
  · exact .inl (.inl (e _ _ h))
  · exact .inl (.inr ⟨o, e _ _ h⟩)
  · exact .inr h
section
variable {K : PySem.W.Frag} {S S' : Hp}
mutual
theorem Rep.mono (e : Same S S') : ∀ (p : PV) (v : V), Rep K S p v → Rep K S' p v
  | .non, _, h => by cases h; exact .non
  | .bl b, _, h => by cases h; exact .bl b
  | .int i, _, h => by cases h; exact .int i
  | .str x, _, h => by cases h; exact .str x
  | .fn a, _, h => by cases h; exact .fn a
  | .lst ps, _, h => by cases h with | lst h1 h2 => exact .lst (e _ _ h1) (RepL.mono e ps _ h2)
  | .tup ps, _, h => by cases h with | tup h1 h2 => exact .tup (e _ _ h1) (RepL.mono e ps _ h2)
  | .ktup ps, _, h => by cases h with | ktup h1 h2 => exact .ktup (Same.tupK e h1) (RepL.mono e ps _ h2)
  | .klst ps, _, h => by cases h with | klst h1 h2 => exact .klst (Same.lstK e h1) (RepL.mono e ps _ h2)
  | .dic t ks ps, _, h => by
    cases h with
    | dK h1 h2 => exact .dK (h1.same e) (RepL.mono e ps _ h2)
    | dT h1 h2 => exact .dT (h1.same e) (RepL.mono e ps _ h2)
theorem RepL.mono (e : Same S S') : ∀ (ps : List PV) (vs : List V), RepL K S ps vs → RepL K S' ps vs
  | [], _, h => by cases h; exact .nil
  | p :: ps, _, h => by cases h with | cons h1 h2 => exact .cons (Rep.mono e p _ h1) (RepL.mono e ps _ h2)
end
theorem Rep.up (e : Same S S') {p : PV} {v : V} (h : Rep K S p v) : Rep K S' p v := Rep.mono e p v h
theorem RepL.up (e : Same S S') {p : List PV} {v : List V} (h : RepL K S p v) : RepL K S' p v := RepL.mono e p v h
theorem RepL.length : ∀ {ps : List PV} {vs : List V}, RepL K S ps vs → ps.length = vs.length
  | [], _, h => by cases h; rfl
  | _ :: _, _, h => by cases h with | cons _ h2 => simp [RepL.length h2]
theorem RepL.append : ∀ {ps : List PV} {vs : List V} {qs : List PV} {ws : List V}, RepL K S ps vs → RepL K S qs ws → RepL K S (ps ++ qs) (vs ++ ws)
  | [], _, _, _, h, h' => by cases h; exact h'
  | _ :: _, _, _, _, h, h' => by cases h with | cons h1 h2 => exact .cons h1 (RepL.append h2 h')
theorem RepL.get : ∀ {ps : List PV} {vs : List V} {i : Nat} {p : PV}, RepL K S ps vs → ps[i]? = some p → ∃ v, vs[i]? = some v ∧ Rep K S p v
  | [], _, _, _, _, e => by simp at e
  | q :: ps, _, 0, p, h, e => by cases h with | cons h1 h2 => simp at e; subst e; exact ⟨_, rfl, h1⟩
  | q :: ps, _, i + 1, p, h, e => by
    cases h with
    | cons h1 h2 =>
      obtain ⟨v, e1, r⟩ := RepL.get (i := i) h2 (by simpa using e)
      exact ⟨v, by simpa using e1, r⟩
theorem RepL.get' : ∀ {ps : List PV} {vs : List V} {i : Nat} {v : V}, RepL K S ps vs → vs[i]? = some v → ∃ p, ps[i]? = some p ∧ Rep K S p v
  | [], _, _, _, h, e => by cases h; simp at e
  | q :: ps, _, 0, p, h, e => by cases h with | cons h1 h2 => simp at e; subst e; exact ⟨_, rfl, h1⟩
  | q :: ps, _, i + 1, p, h, e => by
    cases h with
    | cons h1 h2 =>
      obtain ⟨v, e1, r⟩ := RepL.get' (i := i) h2 (by simpa using e)
      exact ⟨v, by simpa using e1, r⟩
theorem RepL.set {p : PV} {v : V} (r : Rep K S p v) : ∀ {ps : List PV} {vs : List V} (i : Nat), RepL K S ps vs → RepL K S (ps.set i p) (vs.set i v)
  | [], _, _, h => by cases h; exact .nil
  | _ :: _, _, 0, h => by cases h with | cons h1 h2 => exact .cons r h2
  | _ :: _, _, i + 1, h => by cases h with | cons h1 h2 => exact .cons h1 (RepL.set r i h2)
theorem RepL.take : ∀ {ps : List PV} {vs : List V} (n : Nat), RepL K S ps vs → RepL K S (ps.take n) (vs.take n)
  | _, _, 0, h => by simp; exact .nil
  | [], _, _ + 1, h => by cases h; exact .nil
  | _ :: _, _, n + 1, h => by cases h with | cons h1 h2 => exact .cons h1 (RepL.take n h2)
theorem RepL.drop : ∀ {ps : List PV} {vs : List V} (n : Nat), RepL K S ps vs → RepL K S (ps.drop n) (vs.drop n)
  | _, _, 0, h => h
  | [], _, _ + 1, h => by cases h; exact .nil
  | _ :: _, _, n + 1, h => by cases h with | cons h1 h2 => exact RepL.drop n h2
theorem RepL.reverse : ∀ {ps : List PV} {vs : List V}, RepL K S ps vs → RepL K S ps.reverse vs.reverse
  | [], _, h => by cases h; exact .nil
  | _ :: _, _, h => by cases h with | cons h1 h2 => rw [List.reverse_cons, List.reverse_cons]; exact RepL.append (RepL.reverse h2) (.cons h1 .nil)
theorem RepL.dropLast {ps : List PV} {vs : List V} (h : RepL K S ps vs) : RepL K S ps.dropLast vs.dropLast := by
  rw [List.dropLast_eq_take, List.dropLast_eq_take, ← h.length]
  exact h.take _
theorem RepL.eraseIdx : ∀ {ps : List PV} {vs : List V} (n : Nat), RepL K S ps vs → RepL K S (ps.eraseIdx n) (vs.eraseIdx n)
  | [], _, _, h => by cases h; exact .nil
  | _ :: _, _, 0, h => by cases h with | cons h1 h2 => exact h2
  | _ :: _, _, n + 1, h => by cases h with | cons h1 h2 => exact .cons h1 (RepL.eraseIdx n h2)
theorem RepL.replicate {p : PV} {v : V} (r : Rep K S p v) : ∀ n, RepL K S (List.replicate n p) (List.replicate n v)
  | 0 => .nil
  | n + 1 => .cons r (RepL.replicate r n)
end

/-- what an owned object at the top is -/
def OwnO (K : PySem.W.Frag) (S : Hp) : PV → HO → Prop
  | .lst ps, .lst vs => RepL K S ps vs
  | .dic false ks ps, .dK kvs => ks = kvs.map (fun p => keyPV p.1) ∧ RepL K S ps (kvs.map (·.2))
  | .dic true ks ps, .dT kvs => ks = kvs.map (fun p => .tup (p.1.map keyPV)) ∧ RepL K S ps (kvs.map (·.2))
  | _, _ => False
theorem OwnO.up {K : PySem.W.Frag} {S S' : Hp} (e : Same S S') {p : PV} {o : HO} (h : OwnO K S p o) : OwnO K S' p o := by
  unfold OwnO at h ⊢
  split at h
  · exact h.up e
  · exact ⟨h.1, h.2.up e⟩
  · exact ⟨h.1, h.2.up e⟩
  · exact h.elim
theorem OwnO.noTup {K : PySem.W.Frag} {S : Hp} {p : PV} {vs : List V} (h : OwnO K S p (.tup vs)) : False := by
  unfold OwnO at h
  split at h <;> first | exact h | contradiction
theorem OwnO.rep {K : PySem.W.Frag} {S : Hp} {p : PV} {o : HO} {a : Addr} (h : OwnO K S p o) (e : S a = some o) : Rep K S p (.ref a) := by
  unfold OwnO at h
  split at h
  · exact .lst e h
  · obtain ⟨rfl, h⟩ := h
    exact .dK (.inl e) h
  · obtain ⟨rfl, h⟩ := h
    exact .dT (.inl e) h
  · exact h.elim

/-! ### slots -/
inductive Sl where
  | un | sh (p : PV) | ow (p : PV) | io (p : PV)
abbrev Env := List Sl
def Sl.own? : Sl → Option PV
  | .ow p => some p
  | .io p => some p
  | _ => none
def Sl.with : Sl → PV → Sl
  | .ow _, q => .ow q
  | .io _, q => .io q
  | s, _ => s
/-- new, or a tuple (no one's own) -/
def NT (H : Hp) (b : Addr) (o : HO) : Prop := H b = none ∨ ∃ vs, o = .tup vs
theorem NT.back {H H' : Hp} {b : Addr} {o : HO} (h : NT H' b o) (e : Same H H') : NT H b o := by
  rcases h with h | h
  · exact .inl (e.free h)
  · exact .inr h
structure Abs (K : PySem.W.Frag) (H₀ S₀ : Hp) (M : Addr → Prop) (S : Hp) (σ : St) (H : Hp) (ρ : Env) : Prop where
  len : ρ.length = σ.length
  sub : Same S H
  base : Same S₀ S
  grow : ∀ b o, S b = some o → S₀ b = some o ∨ NT H₀ b o
  keep : ∀ b o, H₀ b = some o → ¬ M b → H b = some o
  there : ∀ b o, H₀ b = some o → ∃ o', H b = some o'
  sh : ∀ (i : Nat) p, ρ[i]? = some (.sh p) → ∃ v, σ[i]? = some (some v) ∧ Rep K S p v
  own : ∀ (i : Nat) s p, ρ[i]? = some s → s.own? = some p → ∃ a o, σ[i]? = some (some (.ref a)) ∧ (s = .ow p → H₀ a = none) ∧ (s = .io p → M a) ∧ S a = none ∧ H a = some o ∧ OwnO K S p o
  dis : ∀ (i j : Nat) s t p q a, ρ[i]? = some s → s.own? = some p → ρ[j]? = some t → t.own? = some q → σ[i]? = some (some (.ref a)) → σ[j]? = some (some (.ref a)) → i = j
/-- new objects alone -/
structure Step (S H S' H' : Hp) : Prop where
  s : Same S S'
  h : Same H H'
  sub : Same S' H'
  new : ∀ b o, S' b = some o → S b = some o ∨ NT H b o
theorem Step.refl {S H : Hp} (h : Same S H) : Step S H S H := ⟨Same.refl _, Same.refl _, h, fun _ _ e => .inl e⟩
theorem Step.trans {S H S1 H1 S2 H2 : Hp} (a : Step S H S1 H1) (b : Step S1 H1 S2 H2) : Step S H S2 H2 :=
  ⟨a.s.trans b.s, a.h.trans b.h, b.sub, fun c o e => by
    rcases b.new c o e with h | h
    · exact a.new c o h
    · exact .inr (h.back a.h)⟩
theorem same_upd {H : Hp} {p : Addr} {o : HO} (h : H p = none) : Same H (upd H p o) := fun b x e => by
  rw [upd_ne (ne_of_none e h)]
  exact e
theorem Same.updB {S H : Hp} {p : Addr} {o : HO} (h : Same S H) : Same (upd S p o) (upd H p o) := fun b x e => by
  by_cases hb : b = p
  · subst hb; rw [upd_same] at e ⊢; exact e
  · rw [upd_ne hb] at e ⊢; exact h _ _ e
/-- one new object, shared -/
theorem Step.new1 {S H : Hp} {p : Addr} {o : HO} (h : Same S H) (n : H p = none) : Step S H (upd S p o) (upd H p o) :=
  ⟨same_upd (Same.free h n), same_upd n, Same.updB h, fun b x e => by
    by_cases hb : b = p
    · subst hb; exact .inr (.inl n)
    · rw [upd_ne hb] at e; exact .inl e⟩
/-- .. not shared -/
theorem Step.hid {S H : Hp} {p : Addr} {o : HO} (h : Same S H) (n : H p = none) : Step S H S (upd H p o) :=
  ⟨Same.refl _, same_upd n, h.trans (same_upd n), fun b x e => .inl e⟩
section
variable {K : PySem.W.Frag} {H₀ S₀ : Hp} {M : Addr → Prop} {S S' H H' : Hp} {σ : St} {ρ : Env}
theorem Abs.rebase (a : Abs K H₀ S₀ M S σ H ρ) : Abs K H₀ S M S σ H ρ := ⟨a.len, a.sub, Same.refl _, fun _ _ e => .inl e, a.keep, a.there, a.sh, a.own, a.dis⟩
theorem Abs.unbase {σ' : St} {ρ' : Env} (a : Abs K H₀ S₀ M S σ H ρ) (b : Abs K H₀ S M S' σ' H' ρ') : Abs K H₀ S₀ M S' σ' H' ρ' :=
  ⟨b.len, b.sub, a.base.trans b.base, fun c o e => by
    rcases b.grow c o e with h | h
    · exact a.grow c o h
    · exact .inr h, b.keep, b.there, b.sh, b.own, b.dis⟩
theorem Abs.none0 (a : Abs K H₀ S₀ M S σ H ρ) {b : Addr} (h : H b = none) : H₀ b = none := by
  cases e : H₀ b with
  | none => rfl
  | some o =>
    obtain ⟨o', e'⟩ := a.there b o e
    rw [h] at e'; cases e'
theorem Abs.nt0 (a : Abs K H₀ S₀ M S σ H ρ) {b : Addr} {o : HO} (h : NT H b o) : NT H₀ b o := by
  rcases h with h | h
  · exact .inl (a.none0 h)
  · exact .inr h
theorem Abs.step (a : Abs K H₀ S₀ M S σ H ρ) (t : Step S H S' H') : Abs K H₀ S₀ M S' σ H' ρ where
  len := a.len
  sub := t.sub
  base := a.base.trans t.s
  grow := fun b o e => by
    rcases t.new b o e with h | h
    · exact a.grow b o h
    · exact .inr (a.nt0 h)
  keep := fun b o e n => t.h _ _ (a.keep b o e n)
  there := fun b o e => by
    obtain ⟨o', h⟩ := a.there b o e
    exact ⟨o', t.h _ _ h⟩
  sh := fun i p e => by
    obtain ⟨v, h1, h2⟩ := a.sh i p e
    exact ⟨v, h1, h2.up t.s⟩
  own := fun i s p e e' => by
    obtain ⟨b, o, h1, h2, h3, h4, h5, h6⟩ := a.own i s p e e'
    refine ⟨b, o, h1, h2, h3, ?_, t.h _ _ h5, h6.up t.s⟩
    cases q : S' b with
    | none => rfl
    | some o' =>
      rcases t.new b o' q with z | z | ⟨vs, z⟩
      · rw [h4] at z; cases z
      · rw [h5] at z; cases z
      · subst z
        have z := (t.sub _ _ q).symm.trans (t.h _ _ h5)
        cases z
        exact (OwnO.noTup h6).elim
  dis := a.dis
/-- an owned slot becomes shared -/
theorem Abs.share {i : Nat} {p : PV} (a : Abs K H₀ S₀ M S σ H ρ) (e : ρ[i]? = some (.ow p)) :
    ∃ b S', σ[i]? = some (some (.ref b)) ∧ Same S S' ∧ Abs K H₀ S₀ M S' σ H (ρ.set i (.sh p)) ∧ Rep K S' p (.ref b) := by
  obtain ⟨b, o, h1, h2, h3, h4, h5, h6⟩ := a.own i _ p e rfl
  have hs : Same S (upd S b o) := same_upd h4
  have hr : Rep K (upd S b o) p (.ref b) := (h6.up hs).rep upd_same
  have hi : i < ρ.length := (List.getElem?_eq_some_iff.mp e).1
  refine ⟨b, upd S b o, h1, hs, ?_, hr⟩
  refine ⟨by rw [List.length_set]; exact a.len, fun c o' q => ?_, a.base.trans hs, fun c o' q => ?_, a.keep, a.there, fun j q ej => ?_, fun j s q ej es => ?_, fun j k s t q r c ej es ek et h k' => ?_⟩
  · by_cases hc : c = b
    · subst hc; rw [upd_same] at q; cases q; exact h5
    · rw [upd_ne hc] at q; exact a.sub _ _ q
  · by_cases hc : c = b
    · subst hc; exact .inr (.inl (h2 rfl))
    · rw [upd_ne hc] at q; exact a.grow _ _ q
  · by_cases hj : j = i
    · subst hj
      rw [List.getElem?_set_self hi] at ej
      cases ej
      exact ⟨_, h1, hr⟩
    · rw [List.getElem?_set_ne (Ne.symm hj)] at ej
      obtain ⟨v, z1, z2⟩ := a.sh j q ej
      exact ⟨v, z1, z2.up hs⟩
  · by_cases hj : j = i
    · subst hj
      rw [List.getElem?_set_self hi] at ej
      cases ej
      cases es
    · rw [List.getElem?_set_ne (Ne.symm hj)] at ej
      obtain ⟨c, o', z1, z2, z3, z4, z5, z6⟩ := a.own j s q ej es
      refine ⟨c, o', z1, z2, z3, ?_, z5, z6.up hs⟩
      rw [upd_ne, z4]
      intro hcb
      subst hcb
      exact hj (a.dis j i _ _ _ _ c ej es e rfl z1 h1)
  · by_cases hj : j = i
    · subst hj
      rw [List.getElem?_set_self hi] at ej
      cases ej
      cases es
    · by_cases hk : k = i
      · subst hk
        rw [List.getElem?_set_self hi] at ek
        cases ek
        cases et
      · rw [List.getElem?_set_ne (Ne.symm hj)] at ej
        rw [List.getElem?_set_ne (Ne.symm hk)] at ek
        exact a.dis j k _ _ _ _ c ej es ek et h k'
/-- a slot gets a shared value -/
theorem Abs.setSh {i : Nat} {p : PV} {v : V} (a : Abs K H₀ S₀ M S σ H ρ) (r : Rep K S p v) : Abs K H₀ S₀ M S (σ.set i (some v)) H (ρ.set i (.sh p)) where
  len := by rw [List.length_set, List.length_set]; exact a.len
  sub := a.sub
  base := a.base
  grow := a.grow
  keep := a.keep
  there := a.there
  sh := fun j q ej => by
    by_cases hj : j = i
    · subst hj
      have hi : j < ρ.length := by
        rcases Nat.lt_or_ge j ρ.length with h | h
        · exact h
        · rw [List.getElem?_eq_none (by rw [List.length_set]; exact h)] at ej; cases ej
      rw [List.getElem?_set_self hi] at ej
      cases ej
      exact ⟨v, List.getElem?_set_self (a.len ▸ hi), r⟩
    · rw [List.getElem?_set_ne (Ne.symm hj)] at ej ⊢
      exact a.sh j q ej
  own := fun j s q ej es => by
    by_cases hj : j = i
    · subst hj
      have hi : j < ρ.length := by
        rcases Nat.lt_or_ge j ρ.length with h | h
        · exact h
        · rw [List.getElem?_eq_none (by rw [List.length_set]; exact h)] at ej; cases ej
      rw [List.getElem?_set_self hi] at ej
      cases ej
      cases es
    · rw [List.getElem?_set_ne (Ne.symm hj)] at ej ⊢
      exact a.own j s q ej es
  dis := fun j k s t q r c ej es ek et h k' => by
    have hl1 : ∀ {j : Nat} {s : Sl} {q : PV}, (ρ.set i (.sh p))[j]? = some s → s.own? = some q → j ≠ i := fun {j s q} ej es hj => by
      subst hj
      have hi : j < ρ.length := by
        rcases Nat.lt_or_ge j ρ.length with h | h
        · exact h
        · rw [List.getElem?_eq_none (by rw [List.length_set]; exact h)] at ej; cases ej
      rw [List.getElem?_set_self hi] at ej
      cases ej
      cases es
    have hj := hl1 ej es
    have hk := hl1 ek et
    rw [List.getElem?_set_ne (Ne.symm hj)] at ej h
    rw [List.getElem?_set_ne (Ne.symm hk)] at ek k'
    exact a.dis j k _ _ _ _ c ej es ek et h k'
/-- a fresh object: new since the entry, no slot owns it, not shared -/
def Fr (K : PySem.W.Frag) (H₀ S H : Hp) (σ : St) (ρ : Env) (p : PV) (v : V) : Prop :=
  ∃ a o, v = .ref a ∧ H₀ a = none ∧ S a = none ∧ H a = some o ∧ OwnO K S p o ∧ ∀ (j : Nat) s q, ρ[j]? = some s → s.own? = some q → σ[j]? ≠ some (some (.ref a))
/-- a slot gets a fresh object -/
theorem Abs.setOw {i : Nat} {p : PV} {v : V} (a : Abs K H₀ S₀ M S σ H ρ) (f : Fr K H₀ S H σ ρ p v) : Abs K H₀ S₀ M S (σ.set i (some v)) H (ρ.set i (.ow p)) := by
  obtain ⟨b, o, rfl, f1, f2, f3, f4, f5⟩ := f
  have lt : ∀ {j : Nat} {s : Sl}, (ρ.set i (.ow p))[j]? = some s → j < ρ.length := fun {j s} ej => by
    rcases Nat.lt_or_ge j ρ.length with h | h
    · exact h
    · rw [List.getElem?_eq_none (by rw [List.length_set]; exact h)] at ej; cases ej
  refine ⟨by rw [List.length_set, List.length_set]; exact a.len, a.sub, a.base, a.grow, a.keep, a.there, fun j q ej => ?_, fun j s q ej es => ?_, fun j k s t q r c ej es ek et h k' => ?_⟩
  · by_cases hj : j = i
    · subst hj
      rw [List.getElem?_set_self (lt ej)] at ej
      cases ej
    · rw [List.getElem?_set_ne (Ne.symm hj)] at ej ⊢
      exact a.sh j q ej
  · by_cases hj : j = i
    · subst hj
      have hi := lt ej
      rw [List.getElem?_set_self hi] at ej
      cases ej
      cases es
      exact ⟨b, o, List.getElem?_set_self (a.len ▸ hi), fun _ => f1, (fun z => nomatch z), f2, f3, f4⟩
    · rw [List.getElem?_set_ne (Ne.symm hj)] at ej ⊢
      exact a.own j s q ej es
  · by_cases hj : j = i
    · by_cases hk : k = i
      · rw [hj, hk]
      · subst hj
        have hl := a.len ▸ lt ej
        rw [List.getElem?_set_self hl] at h
        cases h
        rw [List.getElem?_set_ne (Ne.symm hk)] at ek k'
        exact absurd k' (f5 k _ _ ek et)
    · by_cases hk : k = i
      · subst hk
        have hl := a.len ▸ lt ek
        rw [List.getElem?_set_self hl] at k'
        cases k'
        rw [List.getElem?_set_ne (Ne.symm hj)] at ej h
        exact absurd h (f5 j _ _ ej es)
      · rw [List.getElem?_set_ne (Ne.symm hj)] at ej h
        rw [List.getElem?_set_ne (Ne.symm hk)] at ek k'
        exact a.dis j k _ _ _ _ c ej es ek et h k'
/-- an owned object is changed -/
theorem Abs.mut {i : Nat} {s : Sl} {p q : PV} {b : Addr} {o : HO} (a : Abs K H₀ S₀ M S σ H ρ) (e : ρ[i]? = some s) (es : s.own? = some p) (hb : σ[i]? = some (some (.ref b))) (h : OwnO K S q o) :
    Abs K H₀ S₀ M S σ (upd H b o) (ρ.set i (s.with q)) := by
  obtain ⟨b', o', h1, h2, h3, h4, h5, h6⟩ := a.own i s p e es
  rw [hb] at h1
  cases h1
  have hi : i < ρ.length := (List.getElem?_eq_some_iff.mp e).1
  have hw : (s.with q).own? = some q := by
    cases s with
    | ow r => rfl
    | io r => rfl
    | un => cases es
    | sh r => cases es
  have hn : ∀ c o', S c = some o' → c ≠ b := fun c o' z y => by subst y; rw [h4] at z; cases z
  have hM : ¬ M b → H₀ b = none := fun hM => by
    cases s with
    | ow r => cases es; exact h2 rfl
    | io r => cases es; exact absurd (h3 rfl) hM
    | un => cases es
    | sh r => cases es
  refine ⟨by rw [List.length_set]; exact a.len, fun c o' z => ?_, a.base, a.grow, fun c o' z n => ?_, fun c o' z => ?_, fun j r ej => ?_, fun j t r ej et => ?_, fun j k t u r r' c ej et ek eu z z' => ?_⟩
  · rw [upd_ne (hn c o' z)]; exact a.sub _ _ z
  · by_cases hc : c = b
    · subst hc; rw [hM n] at z; cases z
    · rw [upd_ne hc]; exact a.keep _ _ z n
  · by_cases hc : c = b
    · subst hc; exact ⟨o, upd_same⟩
    · rw [upd_ne hc]; exact a.there _ _ z
  · by_cases hj : j = i
    · subst hj
      rw [List.getElem?_set_self hi] at ej
      have z := Option.some.inj ej
      rw [z] at hw; cases hw
    · rw [List.getElem?_set_ne (Ne.symm hj)] at ej
      exact a.sh j r ej
  · by_cases hj : j = i
    · subst hj
      rw [List.getElem?_set_self hi] at ej
      have z := Option.some.inj ej
      subst z
      rw [hw] at et
      cases et
      refine ⟨b, o, hb, fun z => ?_, fun z => ?_, h4, upd_same, h⟩
      · cases s with
        | ow r => cases es; exact h2 rfl
        | io r => cases z
        | un => cases es
        | sh r => cases es
      · cases s with
        | io r => cases es; exact h3 rfl
        | ow r => cases z
        | un => cases es
        | sh r => cases es
    · rw [List.getElem?_set_ne (Ne.symm hj)] at ej
      obtain ⟨c, o', z1, z2, z3, z4, z5, z6⟩ := a.own j t r ej et
      refine ⟨c, o', z1, z2, z3, z4, ?_, z6⟩
      rw [upd_ne, z5]
      intro hcb
      subst hcb
      exact hj (a.dis j i _ _ _ _ c ej et e es z1 hb)
  · have key : ∀ {j : Nat} {t : Sl} {r : PV}, (ρ.set i (s.with q))[j]? = some t → t.own? = some r → ∃ t' r', ρ[j]? = some t' ∧ t'.own? = some r' := fun {j t r} ej et => by
      by_cases hj : j = i
      · subst hj; exact ⟨s, p, e, es⟩
      · rw [List.getElem?_set_ne (Ne.symm hj)] at ej; exact ⟨t, r, ej, et⟩
    obtain ⟨t1, r1, e1, e2⟩ := key ej et
    obtain ⟨t2, r2, e3, e4⟩ := key ek eu
    exact a.dis j k _ _ _ _ c e1 e2 e3 e4 z z'
/-- what is fresh is shared -/
theorem Abs.shareFr {p : PV} {v : V} (a : Abs K H₀ S₀ M S σ H ρ) (f : Fr K H₀ S H σ ρ p v) : ∃ S', Same S S' ∧ Abs K H₀ S₀ M S' σ H ρ ∧ Rep K S' p v := by
  obtain ⟨b, o, rfl, f1, f2, f3, f4, f5⟩ := f
  have hs : Same S (upd S b o) := same_upd f2
  refine ⟨upd S b o, hs, ⟨a.len, fun c o' q => ?_, a.base.trans hs, fun c o' q => ?_, a.keep, a.there, fun j q ej => ?_, fun j s q ej es => ?_, a.dis⟩, (f4.up hs).rep upd_same⟩
  · by_cases hc : c = b
    · subst hc; rw [upd_same] at q; cases q; exact f3
    · rw [upd_ne hc] at q; exact a.sub _ _ q
  · by_cases hc : c = b
    · subst hc; exact .inr (.inl f1)
    · rw [upd_ne hc] at q; exact a.grow _ _ q
  · obtain ⟨v, z1, z2⟩ := a.sh j q ej
    exact ⟨v, z1, z2.up hs⟩
  · obtain ⟨c, o', z1, z2, z3, z4, z5, z6⟩ := a.own j s q ej es
    refine ⟨c, o', z1, z2, z3, ?_, z5, z6.up hs⟩
    rw [upd_ne, z4]
    intro hcb
    subst hcb
    exact f5 j s q ej es z1
/-- a new object, fresh -/
theorem Abs.fresh {b : Addr} {o : HO} {p : PV} (a : Abs K H₀ S₀ M S σ H ρ) (n : H b = none) (h : OwnO K S p o) : Abs K H₀ S₀ M S σ (upd H b o) ρ ∧ Fr K H₀ S (upd H b o) σ ρ p (.ref b) := by
  refine ⟨a.step (Step.hid a.sub n), b, o, rfl, a.none0 n, a.sub.free n, upd_same, h, fun j s q ej es z => ?_⟩
  obtain ⟨c, o', z1, _, _, _, z5, _⟩ := a.own j s q ej es
  rw [z] at z1
  cases z1
  rw [n] at z5; cases z5
end
end PL

set_option Elab.async false
set_option linter.all false
set_option maxRecDepth 100000
set_option maxHeartbeats 4000000
namespace PL
open PySem PySem.Spec L2
set_option autoImplicit false

structure Exn where
  cls : Str
  fld : Str
  val : PV
inductive Rs (α : Type) where
  | bad | exc (x : Exn) (ρ : Env) | ok (a : α) (ρ : Env)
def Rs.bind {α β : Type} (r : Rs α) (k : α → Env → Rs β) : Rs β := match r with
  | .bad => .bad
  | .exc x ρ => .exc x ρ
  | .ok a ρ => k a ρ
def opt {α : Type} : Option α → Env → Rs α
  | some a, ρ => .ok a ρ
  | none, _ => .bad
abbrev Den := Env → Rs PV
abbrev DenB := Env → Rs Bool
abbrev DenL := Env → Rs (List PV)
@[simp] theorem bind_ok {α β : Type} (a : α) (ρ : Env) (k : α → Env → Rs β) : (Rs.ok a ρ).bind k = k a ρ := id rfl
@[simp] theorem bind_exc {α β : Type} (x : Exn) (ρ : Env) (k : α → Env → Rs β) : (Rs.exc x ρ).bind k = .exc x ρ := id rfl
@[simp] theorem bind_bad {α β : Type} (k : α → Env → Rs β) : (Rs.bad : Rs α).bind k = .bad := id rfl
@[simp] theorem opt_some {α : Type} (a : α) (ρ : Env) : opt (some a) ρ = .ok a ρ := id rfl
@[simp] theorem opt_none {α : Type} (ρ : Env) : opt (none : Option α) ρ = .bad := id rfl

/-- an exception as it lies -/
def ExcRep (K : PySem.W.Frag) (mg : Str → Option Value) (S H : Hp) (x : Exn) (cls : Value) (d : Option Addr) : Prop :=
  ∃ (C dx : Addr) (v : V), mg x.cls = some (.ref C) ∧ cls = .ref C ∧ d = some dx ∧ H dx = some (.xd [(x.fld, v)]) ∧ Rep K S x.val v

abbrev RelT (α β : Type) := Hp → Hp → Hp → St → Env → α → β → Prop
def Post {α β : Type} (K : PySem.W.Frag) (mg : Str → Option Value) (W : WX) (Rl : RelT α β) (H₀ S₀ : Hp) (M : Addr → Prop) (σ : St) (r : Rs α) (Q : β → Hp → Prop) : Prop :=
  match r with
  | .bad => False
  | .exc x ρ' => ∀ cls dd S' H', Abs K H₀ S₀ M S' σ H' ρ' → ExcRep K mg S' H' x cls dd → W cls dd σ H'
  | .ok a ρ' => ∀ b S' H', Abs K H₀ S₀ M S' σ H' ρ' → Rl H₀ S' H' σ ρ' a b → Q b H'
def XOk {α β : Type} (K : PySem.W.Frag) (mg : Str → Option Value) (W : WX) (Rl : RelT α β) (t : St → Hp → (β → Hp → Prop) → Prop) (d : Env → Rs α) : Prop :=
  ∀ (H₀ S₀ : Hp) (M : Addr → Prop) (S : Hp) (σ : St) (H : Hp) (ρ : Env) (Q : β → Hp → Prop), Abs K H₀ S₀ M S σ H ρ → Post K mg W Rl H₀ S₀ M σ (d ρ) Q → t σ H Q
def rV (K : PySem.W.Frag) : RelT PV V := fun _ S _ _ _ p v => Rep K S p v
def rF (K : PySem.W.Frag) : RelT PV V := fun H₀ S H σ ρ p v => Fr K H₀ S H σ ρ p v
def rB : RelT Bool Bool := fun _ _ _ _ _ a b => b = a
def rL (K : PySem.W.Frag) : RelT (List PV) (List V) := fun _ S _ _ _ ps vs => RepL K S ps vs

section
variable {K : PySem.W.Frag} {mg : Str → Option Value} {W : WX} {H₀ S₀ : Hp} {M : Addr → Prop} {S H : Hp} {σ : St} {ρ : Env}
theorem XOk.bind {α β γ δ : Type} {Rl : RelT α β} {Rl' : RelT γ δ} {t : St → Hp → (β → Hp → Prop) → Prop} {d : Env → Rs α} (h : XOk K mg W Rl t d) (ab : Abs K H₀ S₀ M S σ H ρ) {k : α → Env → Rs γ} {Q : δ → Hp → Prop} {Q1 : β → Hp → Prop}
    (hp : Post K mg W Rl' H₀ S₀ M σ ((d ρ).bind k) Q)
    (hk : ∀ a ρ1 b S1 H1, d ρ = .ok a ρ1 → Abs K H₀ S₀ M S1 σ H1 ρ1 → Same S S1 → Rl H₀ S1 H1 σ ρ1 a b → Post K mg W Rl' H₀ S₀ M σ (k a ρ1) Q → Q1 b H1) : t σ H Q1 := by
  refine h H₀ S M S σ H ρ Q1 ab.rebase ?_
  cases e : d ρ with
  | bad => rw [e] at hp; exact hp
  | exc x ρ1 =>
    rw [e] at hp
    exact fun cls dd S' H' a1 r => hp cls dd S' H' (ab.unbase a1) r
  | ok a ρ1 =>
    rw [e] at hp
    exact fun b S1 H1 a1 r => hk a ρ1 b S1 H1 e (ab.unbase a1) a1.base r hp
/-- fresh is shared -/
theorem XOk.shared {t : TE} {d : Den} (h : XOk K mg W (rF K) t d) : XOk K mg W (rV K) t d := by
  intro H₀ S₀ M S σ H ρ Q ab hp
  refine h H₀ S₀ M S σ H ρ Q ab ?_
  cases e : d ρ with
  | bad => rw [e] at hp; exact hp
  | exc x ρ1 => rw [e] at hp; exact hp
  | ok a ρ1 =>
    rw [e] at hp
    intro b S1 H1 a1 f
    obtain ⟨S2, s2, a2, r2⟩ := a1.shareFr f
    exact hp b S2 H1 a2 r2
end

/-! ### operations by values -/
def V2 (K : PySem.W.Frag) (r : R2) (g : PV → PV → Option PV) : Prop :=
  ∀ (S H : Hp) (x y : V) (p q z : PV) (Q : VK), Same S H → Rep K S p x → Rep K S q y → g p q = some z → (∀ v S' H', Step S H S' H' → Rep K S' z v → Q v H') → r x y H Q
def V2F (K : PySem.W.Frag) (r : R2) (g : PV → PV → Option PV) : Prop :=
  ∀ (S H : Hp) (x y : V) (p q z : PV) (Q : VK), Same S H → Rep K S p x → Rep K S q y → g p q = some z → (∀ a o, H a = none → OwnO K S z o → Q (.ref a) (upd H a o)) → r x y H Q
def V1 (K : PySem.W.Frag) (r : V → Hp → VK → Prop) (g : PV → Option PV) : Prop :=
  ∀ (S H : Hp) (x : V) (p z : PV) (Q : VK), Same S H → Rep K S p x → g p = some z → (∀ v S' H', Step S H S' H' → Rep K S' z v → Q v H') → r x H Q
def VN (K : PySem.W.Frag) (r : List V → Hp → VK → Prop) (g : List PV → Option PV) : Prop :=
  ∀ (S H : Hp) (xs : List V) (ps : List PV) (z : PV) (Q : VK), Same S H → RepL K S ps xs → g ps = some z → (∀ v S' H', Step S H S' H' → Rep K S' z v → Q v H') → r xs H Q
def VNF (K : PySem.W.Frag) (r : List V → Hp → VK → Prop) (g : List PV → Option PV) : Prop :=
  ∀ (S H : Hp) (xs : List V) (ps : List PV) (z : PV) (Q : VK), Same S H → RepL K S ps xs → g ps = some z → (∀ a o, H a = none → OwnO K S z o → Q (.ref a) (upd H a o)) → r xs H Q
/-- the truth of a value -/
def VT (K : PySem.W.Frag) (r : V → Hp → (Bool → Hp → Prop) → Prop) (g : PV → Option Bool) : Prop :=
  ∀ (S H : Hp) (x : V) (p : PV) (z : Bool) (Q : Bool → Hp → Prop), Same S H → Rep K S p x → g p = some z → Q z H → r x H Q
theorem own_new {K : PySem.W.Frag} {S H : Hp} {a : Addr} {o : HO} {z : PV} (s : Same S H) (n : H a = none) (h : OwnO K S z o) : Step S H (upd S a o) (upd H a o) ∧ Rep K (upd S a o) z (.ref a) :=
  ⟨Step.new1 s n, (h.up (same_upd (Same.free s n))).rep upd_same⟩
theorem V2F.v2 {K : PySem.W.Frag} {r : R2} {g : PV → PV → Option PV} (h : V2F K r g) : V2 K r g := fun S H x y p q z Q s rx ry e k => h S H x y p q z Q s rx ry e fun a o n w => k _ _ _ (own_new s n w).1 (own_new s n w).2
theorem VNF.vn {K : PySem.W.Frag} {r : List V → Hp → VK → Prop} {g : List PV → Option PV} (h : VNF K r g) : VN K r g := fun S H xs ps z Q s rx e k => h S H xs ps z Q s rx e fun a o n w => k _ _ _ (own_new s n w).1 (own_new s n w).2
def PV.sc : PV → Bool
  | .non => true
  | .bl _ => true
  | .int _ => true
  | .str _ => true
  | _ => false
theorem Rep.sc {K : PySem.W.Frag} {S S' : Hp} {p : PV} {v : V} (h : Rep K S p v) (e : p.sc = true) : Rep K S' p v := by
  cases p with
  | non => cases h; exact .non
  | bl b => cases h; exact .bl b
  | int i => cases h; exact .int i
  | str x => cases h; exact .str x
  | _ => cases e

/-! ### denotations of expressions -/
def dC (p : PV) : Den := fun ρ => .ok p ρ
def dVar (i : Nat) : Den := fun ρ => match ρ[i]? with
  | some (.sh p) => .ok p ρ
  | some (.ow p) => .ok p (ρ.set i (.sh p))
  | _ => .bad
def Sl.pv? : Sl → Option PV
  | .sh p => some p
  | .ow p => some p
  | .io p => some p
  | .un => none
/-- what the slot holds -/
def slot (ρ : Env) (i : Nat) : Option PV := (ρ[i]?).bind Sl.pv?
def d1 (g : PV → Option PV) (da : Den) : Den := fun ρ => (da ρ).bind fun p ρ1 => opt (g p) ρ1
def d2 (g : PV → PV → Option PV) (da db : Den) : Den := fun ρ => (da ρ).bind fun p ρ1 => (db ρ1).bind fun q ρ2 => opt (g p q) ρ2
/-- the left one a slot that is only looked at -/
def d2l (g : PV → PV → Option PV) (i : Nat) (db : Den) : Den := fun ρ => match slot ρ i with
  | none => .bad
  | some _ => (db ρ).bind fun q ρ1 => match slot ρ1 i with
    | none => .bad
    | some p => opt (g p q) ρ1
def d2r (g : PV → PV → Option PV) (da : Den) (i : Nat) : Den := fun ρ => (da ρ).bind fun p ρ1 => match slot ρ1 i with
    | none => .bad
    | some q => opt (g p q) ρ1
def d2b (g : PV → PV → Option PV) (i j : Nat) : Den := fun ρ => match slot ρ i, slot ρ j with
    | some p, some q => opt (g p q) ρ
    | _, _ => .bad
def d1v (g : PV → Option PV) (i : Nat) : Den := fun ρ => match slot ρ i with
    | some p => opt (g p) ρ
    | _ => .bad
def dNil : DenL := fun ρ => .ok [] ρ
def dCons (da : Den) (dr : DenL) : DenL := fun ρ => (da ρ).bind fun p ρ1 => (dr ρ1).bind fun ps ρ2 => .ok (p :: ps) ρ2
def dN (g : List PV → Option PV) (da : DenL) : Den := fun ρ => (da ρ).bind fun ps ρ1 => opt (g ps) ρ1
def dIf (dc : DenB) (da db : Den) : Den := fun ρ => (dc ρ).bind fun b ρ1 => if b = true then da ρ1 else db ρ1
/-- tests -/
def bAnd (da db : DenB) : DenB := fun ρ => (da ρ).bind fun b ρ1 => if b = true then db ρ1 else .ok false ρ1
def bOr (da db : DenB) : DenB := fun ρ => (da ρ).bind fun b ρ1 => if b = true then .ok true ρ1 else db ρ1
def bNot (da : DenB) : DenB := fun ρ => (da ρ).bind fun b ρ1 => .ok (!b) ρ1
def PV.bool? : PV → Option Bool
  | .bl b => some b
  | _ => none
/-- a value that is a bool, as a test -/
def bVal (da : Den) : DenB := fun ρ => (da ρ).bind fun p ρ1 => opt p.bool? ρ1
def truth : PV → Option Bool
  | .non => some false
  | .bl b => some b
  | .int i => some (i != 0)
  | .str x => if x.length ≤ sizeLine then some ((x.length : Int) != 0) else none
  | .lst ps => some (!ps.isEmpty)
  | .tup ps => some (!ps.isEmpty)
  | .ktup ps => some (!ps.isEmpty)
  | .klst ps => some (!ps.isEmpty)
  | .dic _ _ _ => none
  | .fn _ => none
def bTru (da : Den) : DenB := fun ρ => (da ρ).bind fun p ρ1 => opt (truth p) ρ1
def bTruV (i : Nat) : DenB := fun ρ => match slot ρ i with
  | some p => opt (truth p) ρ
  | none => .bad

section
variable {K : PySem.W.Frag} {mg : Str → Option Value} {W : WX}
abbrev EOk (K : PySem.W.Frag) (mg : Str → Option Value) (W : WX) (t : TE) (d : Den) : Prop := XOk K mg W (rV K) t d
abbrev FOk (K : PySem.W.Frag) (mg : Str → Option Value) (W : WX) (t : TE) (d : Den) : Prop := XOk K mg W (rF K) t d
abbrev TOk (K : PySem.W.Frag) (mg : Str → Option Value) (W : WX) (t : TT) (d : DenB) : Prop := XOk K mg W rB t d
abbrev AOk (K : PySem.W.Frag) (mg : Str → Option Value) (W : WX) (t : TA) (d : DenL) : Prop := XOk K mg W (rL K) t d

theorem eo_c {p : PV} {v : V} (h : ∀ S, Rep K S p v) : EOk K mg W (tC v) (dC p) := fun H₀ S₀ M S σ H ρ Q ab hp => hp v S H ab (h S)
theorem eo_var {i : Nat} : EOk K mg W (tVar i) (dVar i) := by
  intro H₀ S₀ M S σ H ρ Q ab hp
  unfold dVar at hp
  cases e : ρ[i]? with
  | none => rw [e] at hp; exact hp.elim
  | some s =>
    rw [e] at hp
    cases s with
    | un => exact hp.elim
    | io p => exact hp.elim
    | sh p =>
      obtain ⟨v, h1, h2⟩ := ab.sh i p e
      exact ⟨v, h1, hp v S H ab h2⟩
    | ow p =>
      obtain ⟨b, S', h1, h2, h3, h4⟩ := ab.share e
      exact ⟨.ref b, h1, hp _ S' H h3 h4⟩
theorem Abs.look {H₀ S₀ : Hp} {M : Addr → Prop} {S H : Hp} {σ : St} {ρ : Env} {i : Nat} {p : PV} (a : Abs K H₀ S₀ M S σ H ρ) (e : slot ρ i = some p) :
    ∃ v S', σ[i]? = some (some v) ∧ Same S S' ∧ Same S' H ∧ Rep K S' p v := by
  unfold slot at e
  cases e1 : ρ[i]? with
  | none => rw [e1] at e; cases e
  | some s =>
    rw [e1] at e
    cases s with
    | un => cases e
    | sh q =>
      cases e
      obtain ⟨v, h1, h2⟩ := a.sh i _ e1
      exact ⟨v, S, h1, Same.refl _, a.sub, h2⟩
    | ow q =>
      cases e
      obtain ⟨b, o, h1, h2, h3, h4, h5, h6⟩ := a.own i _ _ e1 rfl
      refine ⟨.ref b, upd S b o, h1, same_upd h4, fun c o' z => ?_, (h6.up (same_upd h4)).rep upd_same⟩
      by_cases hc : c = b
      · subst hc; rw [upd_same] at z; cases z; exact h5
      · rw [upd_ne hc] at z; exact a.sub _ _ z
    | io q =>
      cases e
      obtain ⟨b, o, h1, h2, h3, h4, h5, h6⟩ := a.own i _ _ e1 rfl
      refine ⟨.ref b, upd S b o, h1, same_upd h4, fun c o' z => ?_, (h6.up (same_upd h4)).rep upd_same⟩
      by_cases hc : c = b
      · subst hc; rw [upd_same] at z; cases z; exact h5
      · rw [upd_ne hc] at z; exact a.sub _ _ z
/-- the two slots looked at together -/
theorem Abs.look2 {H₀ S₀ : Hp} {M : Addr → Prop} {S H : Hp} {σ : St} {ρ : Env} {i j : Nat} {p q : PV} (a : Abs K H₀ S₀ M S σ H ρ) (e : slot ρ i = some p) (e' : slot ρ j = some q) :
    ∃ v u S', σ[i]? = some (some v) ∧ σ[j]? = some (some u) ∧ Same S S' ∧ Same S' H ∧ Rep K S' p v ∧ Rep K S' q u := by
  obtain ⟨v, S1, h1, h2, h3, h4⟩ := a.look e
  obtain ⟨u, S2, k1, k2, k3, k4⟩ := a.look e'
  refine ⟨v, u, fun b => match S1 b with | some o => some o | none => S2 b, h1, k1, fun b o z => ?_, fun b o z => ?_, h4.up fun b o z => ?_, k4.up fun b o z => ?_⟩
  · simp only [h2 b o z]
  · cases e1 : S1 b with
    | some o' => simp only [e1] at z; rw [← z]; exact h3 b o' e1
    | none => simp only [e1] at z; exact k3 b o z
  · simp only [z]
  · cases e1 : S1 b with
    | some o' =>
      have z1 := h3 b o' e1
      rw [k3 b o z] at z1
      simp only [e1]; exact z1.symm
    | none => simp only [e1]; exact z
theorem step_of {S S' H S2 H2 : Hp} (s : Same S H) (t : Step S' H S2 H2) : Step S H S H2 := ⟨Same.refl _, t.h, s.trans t.h, fun _ _ e => .inl e⟩
theorem eo_1 {ta : TE} {da : Den} {r : V → Hp → VK → Prop} {g : PV → Option PV} (ha : EOk K mg W ta da) (hr : V1 K r g) : EOk K mg W (tUn r ta) (d1 g da) := by
  intro H₀ S₀ M S σ H ρ Q ab hp
  refine ha.bind (Rl' := rV K) ab hp fun p ρ1 v S1 H1 _ a1 _ r1 hp => ?_
  cases e : g p with
  | none => rw [e] at hp; exact hp.elim
  | some z =>
    rw [e] at hp
    exact hr S1 H1 v p z Q a1.sub r1 e fun v' S2 H2 st rz => hp v' S2 H2 (a1.step st) rz
theorem eo_2 {ta tb : TE} {da db : Den} {r : R2} {g : PV → PV → Option PV} (ha : EOk K mg W ta da) (hb : EOk K mg W tb db) (hr : V2 K r g) : EOk K mg W (tOp r ta tb) (d2 g da db) := by
  intro H₀ S₀ M S σ H ρ Q ab hp
  refine ha.bind (Rl' := rV K) ab hp fun p ρ1 v S1 H1 _ a1 _ r1 hp => ?_
  refine hb.bind (Rl' := rV K) a1 hp fun q ρ2 u S2 H2 _ a2 s2 r2 hp => ?_
  cases e : g p q with
  | none => rw [e] at hp; exact hp.elim
  | some z =>
    rw [e] at hp
    exact hr S2 H2 v u p q z Q a2.sub (r1.up s2) r2 e fun v' S3 H3 st rz => hp v' S3 H3 (a2.step st) rz
theorem fo_2 {ta tb : TE} {da db : Den} {r : R2} {g : PV → PV → Option PV} (ha : EOk K mg W ta da) (hb : EOk K mg W tb db) (hr : V2F K r g) : FOk K mg W (tOp r ta tb) (d2 g da db) := by
  intro H₀ S₀ M S σ H ρ Q ab hp
  refine ha.bind (Rl' := rF K) ab hp fun p ρ1 v S1 H1 _ a1 _ r1 hp => ?_
  refine hb.bind (Rl' := rF K) a1 hp fun q ρ2 u S2 H2 _ a2 s2 r2 hp => ?_
  cases e : g p q with
  | none => rw [e] at hp; exact hp.elim
  | some z =>
    rw [e] at hp
    exact hr S2 H2 v u p q z Q a2.sub (r1.up s2) r2 e fun a o n w => hp _ S2 _ (a2.fresh n w).1 (a2.fresh n w).2
theorem eo_2l {i : Nat} {tb : TE} {db : Den} {r : R2} {g : PV → PV → Option PV} (hb : EOk K mg W tb db) (hr : V2 K r g) (hs : ∀ p q z, g p q = some z → z.sc = true) : EOk K mg W (tOp r (tVar i) tb) (d2l g i db) := by
  intro H₀ S₀ M S σ H ρ Q ab hp
  unfold d2l at hp
  cases e0 : slot ρ i with
  | none => rw [e0] at hp; exact hp.elim
  | some p0 =>
    rw [e0] at hp
    obtain ⟨v, _, hv, _⟩ := ab.look e0
    refine ⟨v, hv, ?_⟩
    refine hb.bind (Rl' := rV K) ab hp fun q ρ1 u S1 H1 _ a1 _ r1 hp => ?_
    cases e1 : slot ρ1 i with
    | none => rw [e1] at hp; exact hp.elim
    | some p =>
      rw [e1] at hp
      obtain ⟨v', S2, hv', s2, s3, r2⟩ := a1.look e1
      rw [hv] at hv'
      cases hv'
      cases e : g p q with
      | none => simp only [e] at hp; exact hp.elim
      | some z =>
        simp only [e] at hp
        exact hr S2 H1 v u p q z Q s3 r2 (r1.up s2) e fun v' S3 H3 st rz => hp v' S1 H3 (a1.step (step_of a1.sub st)) (rz.sc (hs _ _ _ e))
theorem eo_2r {i : Nat} {ta : TE} {da : Den} {r : R2} {g : PV → PV → Option PV} (ha : EOk K mg W ta da) (hr : V2 K r g) (hs : ∀ p q z, g p q = some z → z.sc = true) : EOk K mg W (tOp r ta (tVar i)) (d2r g da i) := by
  intro H₀ S₀ M S σ H ρ Q ab hp
  refine ha.bind (Rl' := rV K) ab hp fun p ρ1 v S1 H1 _ a1 _ r1 hp => ?_
  cases e1 : slot ρ1 i with
  | none => rw [e1] at hp; exact hp.elim
  | some q =>
    rw [e1] at hp
    obtain ⟨u, S2, hv', s2, s3, r2⟩ := a1.look e1
    refine ⟨u, hv', ?_⟩
    cases e : g p q with
    | none => simp only [e] at hp; exact hp.elim
    | some z =>
      simp only [e] at hp
      exact hr S2 H1 v u p q z Q s3 (r1.up s2) r2 e fun v' S3 H3 st rz => hp v' S1 H3 (a1.step (step_of a1.sub st)) (rz.sc (hs _ _ _ e))
theorem eo_2b {i j : Nat} {r : R2} {g : PV → PV → Option PV} (hr : V2 K r g) (hs : ∀ p q z, g p q = some z → z.sc = true) : EOk K mg W (tOp r (tVar i) (tVar j)) (d2b g i j) := by
  intro H₀ S₀ M S σ H ρ Q ab hp
  unfold d2b at hp
  cases e0 : slot ρ i with
  | none => rw [e0] at hp; exact hp.elim
  | some p =>
    cases e1 : slot ρ j with
    | none => rw [e0, e1] at hp; exact hp.elim
    | some q =>
      rw [e0, e1] at hp
      obtain ⟨v, u, S2, hv, hu, s2, s3, r1, r2⟩ := ab.look2 e0 e1
      refine ⟨v, hv, u, hu, ?_⟩
      cases e : g p q with
      | none => simp only [e] at hp; exact hp.elim
      | some z =>
        simp only [e] at hp
        exact hr S2 H v u p q z Q s3 r1 r2 e fun v' S3 H3 st rz => hp v' S H3 (ab.step (step_of ab.sub st)) (rz.sc (hs _ _ _ e))
theorem eo_1v {i : Nat} {r : V → Hp → VK → Prop} {g : PV → Option PV} (hr : V1 K r g) (hs : ∀ p z, g p = some z → z.sc = true) : EOk K mg W (tUn r (tVar i)) (d1v g i) := by
  intro H₀ S₀ M S σ H ρ Q ab hp
  unfold d1v at hp
  cases e0 : slot ρ i with
  | none => rw [e0] at hp; exact hp.elim
  | some p =>
    rw [e0] at hp
    obtain ⟨v, S2, hv, s2, s3, r2⟩ := ab.look e0
    refine ⟨v, hv, ?_⟩
    cases e : g p with
    | none => simp only [e] at hp; exact hp.elim
    | some z =>
      simp only [e] at hp
      exact hr S2 H v p z Q s3 r2 e fun v' S3 H3 st rz => hp v' S H3 (ab.step (step_of ab.sub st)) (rz.sc (hs _ _ e))
theorem ao_nil : AOk K mg W tNil dNil := fun H₀ S₀ M S σ H ρ Q ab hp => hp [] S H ab .nil
theorem ao_cons {ta : TE} {da : Den} {tr : TA} {dr : DenL} (ha : EOk K mg W ta da) (hr : AOk K mg W tr dr) : AOk K mg W (tCons ta tr) (dCons da dr) := by
  intro H₀ S₀ M S σ H ρ Q ab hp
  refine ha.bind (Rl' := rL K) ab hp fun p ρ1 v S1 H1 _ a1 _ r1 hp => ?_
  refine hr.bind (Rl' := rL K) a1 hp fun ps ρ2 vs S2 H2 _ a2 s2 r2 hp => ?_
  exact hp _ S2 H2 a2 (.cons (r1.up s2) r2)
theorem eo_n {ta : TA} {da : DenL} {r : List V → Hp → VK → Prop} {g : List PV → Option PV} (ha : AOk K mg W ta da) (hr : VN K r g) : EOk K mg W (tCB r ta) (dN g da) := by
  intro H₀ S₀ M S σ H ρ Q ab hp
  refine ha.bind (Rl' := rV K) ab hp fun p ρ1 v S1 H1 _ a1 _ r1 hp => ?_
  cases e : g p with
  | none => rw [e] at hp; exact hp.elim
  | some z =>
    rw [e] at hp
    exact hr S1 H1 v p z Q a1.sub r1 e fun v' S2 H2 st rz => hp v' S2 H2 (a1.step st) rz
theorem fo_n {ta : TA} {da : DenL} {r : List V → Hp → VK → Prop} {g : List PV → Option PV} (ha : AOk K mg W ta da) (hr : VNF K r g) : FOk K mg W (tCB r ta) (dN g da) := by
  intro H₀ S₀ M S σ H ρ Q ab hp
  refine ha.bind (Rl' := rF K) ab hp fun p ρ1 v S1 H1 _ a1 _ r1 hp => ?_
  cases e : g p with
  | none => rw [e] at hp; exact hp.elim
  | some z =>
    rw [e] at hp
    exact hr S1 H1 v p z Q a1.sub r1 e fun a o n w => hp _ S1 _ (a1.fresh n w).1 (a1.fresh n w).2
/-- one argument, a slot that is only looked at -/
theorem eo_nv {i : Nat} {r : List V → Hp → VK → Prop} {g : List PV → Option PV} (hr : VN K r g) (hs : ∀ p z, g [p] = some z → z.sc = true) : EOk K mg W (tCB r (tCons (tVar i) tNil)) (d1v (fun p => g [p]) i) := by
  intro H₀ S₀ M S σ H ρ Q ab hp
  unfold d1v at hp
  cases e0 : slot ρ i with
  | none => rw [e0] at hp; exact hp.elim
  | some p =>
    rw [e0] at hp
    obtain ⟨v, S2, hv, s2, s3, r2⟩ := ab.look e0
    refine ⟨v, hv, ?_⟩
    cases e : g [p] with
    | none => simp only [e] at hp; exact hp.elim
    | some z =>
      simp only [e] at hp
      exact hr S2 H [v] [p] z Q s3 (.cons r2 .nil) e fun v' S3 H3 st rz => hp v' S H3 (ab.step (step_of ab.sub st)) (rz.sc (hs _ _ e))
theorem eo_if {tc : TT} {dc : DenB} {ta tb : TE} {da db : Den} (hc : TOk K mg W tc dc) (ha : EOk K mg W ta da) (hb : EOk K mg W tb db) : EOk K mg W (tIf tc ta tb) (dIf dc da db) := by
  intro H₀ S₀ M S σ H ρ Q ab hp
  refine hc.bind (Rl' := rV K) ab hp fun c ρ1 b S1 H1 _ a1 _ r1 hp => ?_
  cases r1
  cases c with
  | true => exact ha H₀ S₀ M S1 σ H1 ρ1 Q a1 hp
  | false => exact hb H₀ S₀ M S1 σ H1 ρ1 Q a1 hp
theorem to_and {ta tb : TT} {da db : DenB} (ha : TOk K mg W ta da) (hb : TOk K mg W tb db) : TOk K mg W (tAnd ta tb) (bAnd da db) := by
  intro H₀ S₀ M S σ H ρ Q ab hp
  refine ha.bind (Rl' := rB) ab hp fun c ρ1 b S1 H1 _ a1 _ r1 hp => ?_
  cases r1
  cases c with
  | true => exact hb H₀ S₀ M S1 σ H1 ρ1 Q a1 hp
  | false => exact hp false S1 H1 a1 rfl
theorem to_or {ta tb : TT} {da db : DenB} (ha : TOk K mg W ta da) (hb : TOk K mg W tb db) : TOk K mg W (tOr ta tb) (bOr da db) := by
  intro H₀ S₀ M S σ H ρ Q ab hp
  refine ha.bind (Rl' := rB) ab hp fun c ρ1 b S1 H1 _ a1 _ r1 hp => ?_
  cases r1
  cases c with
  | true => exact hp true S1 H1 a1 rfl
  | false => exact hb H₀ S₀ M S1 σ H1 ρ1 Q a1 hp
theorem to_not {ta : TT} {da : DenB} (ha : TOk K mg W ta da) : TOk K mg W (tNot ta) (bNot da) := by
  intro H₀ S₀ M S σ H ρ Q ab hp
  refine ha.bind (Rl' := rB) ab hp fun c ρ1 b S1 H1 _ a1 _ r1 hp => ?_
  cases r1
  exact hp _ S1 H1 a1 rfl
theorem to_val {ta : TE} {da : Den} (ha : EOk K mg W ta da) : TOk K mg W (tTest ta) (bVal da) := by
  intro H₀ S₀ M S σ H ρ Q ab hp
  refine ha.bind (Rl' := rB) ab hp fun p ρ1 v S1 H1 _ a1 _ r1 hp => ?_
  cases p with
  | bl b =>
    cases r1
    exact ⟨b, rfl, hp b S1 H1 a1 rfl⟩
  | _ => exact hp.elim
theorem to_tru {ta : TE} {da : Den} {r : V → Hp → (Bool → Hp → Prop) → Prop} (ha : EOk K mg W ta da) (hr : VT K r truth) : TOk K mg W (fun σ H Q => ta σ H fun x H' => r x H' Q) (bTru da) := by
  intro H₀ S₀ M S σ H ρ Q ab hp
  refine ha.bind (Rl' := rB) ab hp fun p ρ1 v S1 H1 _ a1 _ r1 hp => ?_
  cases e : truth p with
  | none => rw [e] at hp; exact hp.elim
  | some z =>
    rw [e] at hp
    exact hr S1 H1 v p z Q a1.sub r1 e (hp z S1 H1 a1 rfl)
theorem to_truv {i : Nat} {r : V → Hp → (Bool → Hp → Prop) → Prop} (hr : VT K r truth) : TOk K mg W (fun σ H Q => tVar i σ H fun x H' => r x H' Q) (bTruV i) := by
  intro H₀ S₀ M S σ H ρ Q ab hp
  unfold bTruV at hp
  cases e0 : slot ρ i with
  | none => rw [e0] at hp; exact hp.elim
  | some p =>
    rw [e0] at hp
    obtain ⟨v, S2, hv, s2, s3, r2⟩ := ab.look e0
    refine ⟨v, hv, ?_⟩
    cases e : truth p with
    | none => simp only [e] at hp; exact hp.elim
    | some z =>
      simp only [e] at hp
      exact hr S2 H v p z Q s3 r2 e (hp z S H ab rfl)
end
end PL

set_option Elab.async false
set_option linter.all false
set_option maxRecDepth 100000
set_option maxHeartbeats 4000000
namespace PL
open PySem PySem.Spec L2
set_option autoImplicit false

inductive RS where
  | bad | exc (x : Exn) (ρ : Env) | nx (ρ : Env) | rt (p : PV) (ρ : Env) | bk (ρ : Env) | ct (ρ : Env)
def Rs.bindS {α : Type} (r : Rs α) (k : α → Env → RS) : RS := match r with
  | .bad => .bad
  | .exc x ρ => .exc x ρ
  | .ok a ρ => k a ρ
@[simp] theorem bindS_ok {α : Type} (a : α) (ρ : Env) (k : α → Env → RS) : (Rs.ok a ρ).bindS k = k a ρ := id rfl
@[simp] theorem bindS_exc {α : Type} (x : Exn) (ρ : Env) (k : α → Env → RS) : (Rs.exc x ρ).bindS k = .exc x ρ := id rfl
@[simp] theorem bindS_bad {α : Type} (k : α → Env → RS) : (Rs.bad : Rs α).bindS k = .bad := id rfl
abbrev DenS := Env → RS
/-- how a value comes back: fresh or shared -/
def RetRep (fr : Bool) (K : PySem.W.Frag) (H₀ S H : Hp) (σ : St) (ρ : Env) (p : PV) (v : V) : Prop := if fr = true then Fr K H₀ S H σ ρ p v else Rep K S p v
def SPost (K : PySem.W.Frag) (mg : Str → Option Value) (W : WX) (fr : Bool) (H₀ S₀ : Hp) (M : Addr → Prop) (r : RS) (D : Ends) : Prop :=
  match r with
  | .bad => False
  | .exc x ρ' => ∀ cls dd S' σ' H', Abs K H₀ S₀ M S' σ' H' ρ' → ExcRep K mg S' H' x cls dd → W cls dd σ' H'
  | .nx ρ' => ∀ S' σ' H', Abs K H₀ S₀ M S' σ' H' ρ' → D.nx σ' H'
  | .bk ρ' => ∀ S' σ' H', Abs K H₀ S₀ M S' σ' H' ρ' → D.bk σ' H'
  | .ct ρ' => ∀ S' σ' H', Abs K H₀ S₀ M S' σ' H' ρ' → D.ct σ' H'
  | .rt p ρ' => ∀ v S' σ' H', Abs K H₀ S₀ M S' σ' H' ρ' → RetRep fr K H₀ S' H' σ' ρ' p v → D.rt v H'
def SOk (K : PySem.W.Frag) (mg : Str → Option Value) (W : WX) (fr : Bool) (t : TS) (d : DenS) : Prop :=
  ∀ (H₀ S₀ : Hp) (M : Addr → Prop) (S : Hp) (σ : St) (H : Hp) (ρ : Env) (D : Ends), Abs K H₀ S₀ M S σ H ρ → SPost K mg W fr H₀ S₀ M (d ρ) D → t D σ H

section
variable {K : PySem.W.Frag} {mg : Str → Option Value} {W : WX} {fr : Bool} {H₀ S₀ : Hp} {M : Addr → Prop} {S H : Hp} {σ : St} {ρ : Env}
/-- the same ends, over a later base -/
theorem SPost.rebase {S1 σ1 H1 ρ1} (ab : Abs K H₀ S₀ M S1 σ1 H1 ρ1) {r : RS} {D : Ends} (h : SPost K mg W fr H₀ S₀ M r D) : SPost K mg W fr H₀ S1 M r D := by
  cases r with
  | bad => exact h
  | exc x ρ' => exact fun cls dd S' σ' H' a r => h cls dd S' σ' H' (ab.unbase a) r
  | nx ρ' => exact fun S' σ' H' a => h S' σ' H' (ab.unbase a)
  | bk ρ' => exact fun S' σ' H' a => h S' σ' H' (ab.unbase a)
  | ct ρ' => exact fun S' σ' H' a => h S' σ' H' (ab.unbase a)
  | rt p ρ' => exact fun v S' σ' H' a r => h v S' σ' H' (ab.unbase a) r
theorem XOk.bindS {α β : Type} {Rl : RelT α β} {t : St → Hp → (β → Hp → Prop) → Prop} {d : Env → Rs α} (h : XOk K mg W Rl t d) (ab : Abs K H₀ S₀ M S σ H ρ) {k : α → Env → RS} {D : Ends} {Q1 : β → Hp → Prop}
    (hp : SPost K mg W fr H₀ S₀ M ((d ρ).bindS k) D)
    (hk : ∀ a ρ1 b S1 H1, d ρ = .ok a ρ1 → Abs K H₀ S₀ M S1 σ H1 ρ1 → Same S S1 → Rl H₀ S1 H1 σ ρ1 a b → SPost K mg W fr H₀ S₀ M (k a ρ1) D → Q1 b H1) : t σ H Q1 := by
  refine h H₀ S M S σ H ρ Q1 ab.rebase ?_
  cases e : d ρ with
  | bad => rw [e] at hp; exact hp
  | exc x ρ1 =>
    rw [e] at hp
    exact fun cls dd S' H' a1 r => hp cls dd S' σ H' (ab.unbase a1) r
  | ok a ρ1 =>
    rw [e] at hp
    exact fun b S1 H1 a1 r => hk a ρ1 b S1 H1 e (ab.unbase a1) a1.base r hp

/-! ### small statements -/
def sNx : DenS := fun ρ => .nx ρ
def sBk : DenS := fun ρ => .bk ρ
def sCt : DenS := fun ρ => .ct ρ
def sSeq (a b : DenS) : DenS := fun ρ => match a ρ with
  | .nx ρ1 => b ρ1
  | r => r
def sExpr (da : Den) : DenS := fun ρ => (da ρ).bindS fun _ ρ1 => .nx ρ1
def sRet (da : Den) : DenS := fun ρ => (da ρ).bindS fun p ρ1 => .rt p ρ1
def sRetN : DenS := fun ρ => .rt .non ρ
def sRetO (i : Nat) : DenS := fun ρ => match ρ[i]? with
  | some (.ow p) => .rt p (ρ.set i .un)
  | _ => .bad
def sIf (dc : DenB) (a b : DenS) : DenS := fun ρ => (dc ρ).bindS fun c ρ1 => if c = true then a ρ1 else b ρ1
def sSet (i : Nat) (da : Den) : DenS := fun ρ => (da ρ).bindS fun p ρ1 => .nx (ρ1.set i (.sh p))
def sSetF (i : Nat) (da : Den) : DenS := fun ρ => (da ρ).bindS fun p ρ1 => .nx (ρ1.set i (.ow p))
abbrev DenG := PV → Env → Option Env
def sAsg (da : Den) (dg : DenG) : DenS := fun ρ => (da ρ).bindS fun p ρ1 => match dg p ρ1 with
  | some ρ2 => .nx ρ2
  | none => .bad
def sAug (i : Nat) (g : PV → PV → Option PV) (da : Den) : DenS := fun ρ => match slot ρ i with
  | none => .bad
  | some _ => (da ρ).bindS fun q ρ1 => match slot ρ1 i with
    | none => .bad
    | some p => match g p q with
      | some z => .nx (ρ1.set i (.sh z))
      | none => .bad
def gName (i : Nat) : DenG := fun p ρ => some (ρ.set i (.sh p))
def GOk (K : PySem.W.Frag) (g : TG) (dg : DenG) : Prop :=
  ∀ (H₀ S₀ : Hp) (M : Addr → Prop) (S : Hp) (σ : St) (H : Hp) (ρ ρ' : Env) (p : PV) (v : V) (Q : St → Hp → Prop), Abs K H₀ S₀ M S σ H ρ → Rep K S p v → dg p ρ = some ρ' → (∀ σ', Abs K H₀ S₀ M S σ' H ρ' → Q σ' H) → g v σ H Q
def GsOk (K : PySem.W.Frag) (g : TGs) (dg : List PV → Env → Option Env) : Prop :=
  ∀ (H₀ S₀ : Hp) (M : Addr → Prop) (S : Hp) (σ : St) (H : Hp) (ρ ρ' : Env) (ps : List PV) (vs : List V) (Q : St → Hp → Prop), Abs K H₀ S₀ M S σ H ρ → RepL K S ps vs → dg ps ρ = some ρ' → (∀ σ', Abs K H₀ S₀ M S σ' H ρ' → Q σ' H) → g vs σ H Q
def gsNil : List PV → Env → Option Env
  | [], ρ => some ρ
  | _ :: _, _ => none
def gsCons (a : DenG) (b : List PV → Env → Option Env) : List PV → Env → Option Env
  | [], _ => none
  | p :: ps, ρ => (a p ρ).bind (b ps)
def gTup (b : List PV → Env → Option Env) : DenG := fun p ρ => match p with
  | .tup ps => b ps ρ
  | _ => none
theorem go_name {i : Nat} : GOk K (L2.gName i) (gName i) := fun H₀ S₀ M S σ H ρ ρ' p v Q ab r e h => by
  cases e
  exact h _ (ab.setSh r)
theorem gso_nil : GsOk K L2.gNil gsNil := fun H₀ S₀ M S σ H ρ ρ' ps vs Q ab r e h => by
  cases r with
  | nil =>
    cases e
    exact ⟨rfl, h _ ab⟩
  | cons _ _ => cases e
theorem gso_cons {g : TG} {dg : DenG} {gs : TGs} {dgs : List PV → Env → Option Env} (h1 : GOk K g dg) (h2 : GsOk K gs dgs) : GsOk K (L2.gCons g gs) (gsCons dg dgs) := fun H₀ S₀ M S σ H ρ ρ' ps vs Q ab r e h => by
  cases r with
  | nil => cases e
  | cons r1 r2 =>
    rename_i p v ps vs
    unfold gsCons at e
    cases e1 : dg p ρ with
    | none => simp only [e1] at e; cases e
    | some ρ1 =>
      simp only [e1] at e
      exact ⟨_, _, rfl, h1 H₀ S₀ M S σ H ρ ρ1 p v _ ab r1 e1 fun σ1 a1 => h2 H₀ S₀ M S σ1 H ρ1 ρ' ps vs Q a1 r2 e h⟩
theorem gsCons_len {n : Nat} {dg : DenG} {dgs : List PV → Env → Option Env} (h : ∀ ps ρ ρ', dgs ps ρ = some ρ' → ps.length = n) : ∀ ps ρ ρ', gsCons dg dgs ps ρ = some ρ' → ps.length = n + 1
  | [], _, _, e => by cases e
  | p :: ps, ρ, ρ', e => by
    unfold gsCons at e
    cases e1 : dg p ρ with
    | none => simp only [e1] at e; cases e
    | some ρ1 =>
      simp only [e1] at e
      rw [List.length_cons, h ps ρ1 ρ' e]
theorem gsNil_len : ∀ ps ρ ρ', gsNil ps ρ = some ρ' → ps.length = 0
  | [], _, _, _ => rfl
  | _ :: _, _, _, e => by cases e
theorem go_tup {n : Nat} {gs : TGs} {dgs : List PV → Env → Option Env} (h1 : GsOk K gs dgs) (hn : ∀ ps ρ ρ', dgs ps ρ = some ρ' → ps.length = n) : GOk K (L2.gTup K n gs) (gTup dgs) := fun H₀ S₀ M S σ H ρ ρ' p v Q ab r e h => by
  cases p with
  | tup ps =>
    cases r with
    | tup hs hr =>
      refine ⟨_, _, rfl, .inl (.inl (ab.sub _ _ hs)), ?_, h1 H₀ S₀ M S σ H ρ ρ' ps _ Q ab hr e h⟩
      rw [← hr.length]
      exact hn ps ρ ρ' e
  | _ => cases e

theorem so_nx : SOk K mg W fr tNext sNx := fun H₀ S₀ M S σ H ρ D ab hp => hp S σ H ab
theorem so_bk : SOk K mg W fr tBreak sBk := fun H₀ S₀ M S σ H ρ D ab hp => hp S σ H ab
theorem so_ct : SOk K mg W fr tCont sCt := fun H₀ S₀ M S σ H ρ D ab hp => hp S σ H ab
theorem so_seq {t u : TS} {a b : DenS} (ha : SOk K mg W fr t a) (hb : SOk K mg W fr u b) : SOk K mg W fr (tSeq t u) (sSeq a b) := fun H₀ S₀ M S σ H ρ D ab hp => by
  refine ha H₀ S₀ M S σ H ρ _ ab ?_
  unfold sSeq at hp
  cases e : a ρ with
  | nx ρ1 =>
    rw [e] at hp
    exact fun S' σ' H' a1 => hb H₀ S₀ M S' σ' H' ρ1 D a1 hp
  | bad => rw [e] at hp; exact hp
  | exc x ρ1 => rw [e] at hp; exact hp
  | rt p ρ1 => rw [e] at hp; exact hp
  | bk ρ1 => rw [e] at hp; exact hp
  | ct ρ1 => rw [e] at hp; exact hp
theorem so_expr {te : TE} {da : Den} (ha : EOk K mg W te da) : SOk K mg W fr (tDrop te) (sExpr da) := fun H₀ S₀ M S σ H ρ D ab hp =>
  ha.bindS ab hp fun p ρ1 v S1 H1 _ a1 _ r hp => hp S1 σ H1 a1
theorem so_ret {te : TE} {da : Den} (ha : EOk K mg W te da) : SOk K mg W false (tRet te) (sRet da) := fun H₀ S₀ M S σ H ρ D ab hp =>
  ha.bindS ab hp fun p ρ1 v S1 H1 _ a1 _ r hp => hp v S1 σ H1 a1 r
theorem so_retF {te : TE} {da : Den} (ha : FOk K mg W te da) : SOk K mg W true (tRet te) (sRet da) := fun H₀ S₀ M S σ H ρ D ab hp =>
  ha.bindS ab hp fun p ρ1 v S1 H1 _ a1 _ r hp => hp v S1 σ H1 a1 r
theorem so_retN : SOk K mg W false tRetN sRetN := fun H₀ S₀ M S σ H ρ D ab hp => hp .non S σ H ab .non
theorem so_retO {i : Nat} : SOk K mg W true (tRet (tVar i)) (sRetO i) := fun H₀ S₀ M S σ H ρ D ab hp => by
  unfold sRetO at hp
  cases e : ρ[i]? with
  | none => rw [e] at hp; exact hp.elim
  | some s =>
    rw [e] at hp
    cases s with
    | ow p =>
      obtain ⟨a, o, h1, h2, h3, h4, h5, h6⟩ := ab.own i _ _ e rfl
      have hi : i < ρ.length := (List.getElem?_eq_some_iff.mp e).1
      have ne : ∀ {j : Nat} {s : Sl}, (ρ.set i .un)[j]? = some s → s ≠ .un → j ≠ i ∧ ρ[j]? = some s := fun {j s} ej hs => by
        by_cases hj : j = i
        · subst hj
          rw [List.getElem?_set_self hi] at ej
          cases ej
          exact absurd rfl hs
        · rw [List.getElem?_set_ne (Ne.symm hj)] at ej
          exact ⟨hj, ej⟩
      have nu : ∀ {s : Sl} {q : PV}, s.own? = some q → s ≠ .un := fun {s q} h z => by subst z; cases h
      refine ⟨.ref a, h1, hp (.ref a) S σ H ⟨by rw [List.length_set]; exact ab.len, ab.sub, ab.base, ab.grow, ab.keep, ab.there, fun j q ej => ab.sh j q (ne ej (by intro z; cases z)).2, fun j s q ej es => ab.own j s q (ne ej (nu es)).2 es,
        fun j k s t q r c ej es ek et z z' => ab.dis j k s t q r c (ne ej (nu es)).2 es (ne ek (nu et)).2 et z z'⟩ ?_⟩
      exact ⟨a, o, rfl, h2 rfl, h4, h5, h6, fun j s q ej es z => (ne ej (nu es)).1 (ab.dis j i _ _ _ _ a (ne ej (nu es)).2 es e rfl z h1)⟩
    | _ => exact hp.elim
theorem so_if {tc : TT} {dc : DenB} {t u : TS} {a b : DenS} (hc : TOk K mg W tc dc) (ha : SOk K mg W fr t a) (hb : SOk K mg W fr u b) : SOk K mg W fr (tIfS tc t u) (sIf dc a b) := fun H₀ S₀ M S σ H ρ D ab hp =>
  hc.bindS ab hp fun c ρ1 b' S1 H1 _ a1 _ r hp => by
    cases r
    cases c with
    | true => exact ha H₀ S₀ M S1 σ H1 ρ1 D a1 hp
    | false => exact hb H₀ S₀ M S1 σ H1 ρ1 D a1 hp
theorem so_set {i : Nat} {te : TE} {da : Den} (ha : EOk K mg W te da) : SOk K mg W fr (tAsg te (L2.gName i)) (sSet i da) := fun H₀ S₀ M S σ H ρ D ab hp =>
  ha.bindS ab hp fun p ρ1 v S1 H1 _ a1 _ r hp => hp S1 _ H1 (a1.setSh r)
theorem so_setF {i : Nat} {te : TE} {da : Den} (ha : FOk K mg W te da) : SOk K mg W fr (tAsg te (L2.gName i)) (sSetF i da) := fun H₀ S₀ M S σ H ρ D ab hp =>
  ha.bindS ab hp fun p ρ1 v S1 H1 _ a1 _ r hp => hp S1 _ H1 (a1.setOw r)
theorem so_asg {te : TE} {da : Den} {g : TG} {dg : DenG} (ha : EOk K mg W te da) (hg : GOk K g dg) : SOk K mg W fr (tAsg te g) (sAsg da dg) := fun H₀ S₀ M S σ H ρ D ab hp =>
  ha.bindS ab hp fun p ρ1 v S1 H1 _ a1 _ r hp => by
    cases e : dg p ρ1 with
    | none => simp only [e] at hp; exact hp.elim
    | some ρ2 =>
      simp only [e] at hp
      exact hg H₀ S₀ M S1 σ H1 ρ1 ρ2 p v _ a1 r e fun σ' a2 => hp S1 σ' H1 a2
theorem so_aug {i : Nat} {te : TE} {da : Den} {r : R2} {g : PV → PV → Option PV} (ha : EOk K mg W te da) (hr : V2 K r g) (hs : ∀ p q z, g p q = some z → z.sc = true) : SOk K mg W fr (tAug i te r) (sAug i g da) := fun H₀ S₀ M S σ H ρ D ab hp => by
  unfold sAug at hp
  cases e0 : slot ρ i with
  | none => rw [e0] at hp; exact hp.elim
  | some p0 =>
    rw [e0] at hp
    obtain ⟨v, _, hv, _⟩ := ab.look e0
    refine ⟨v, hv, ha.bindS ab hp fun q ρ1 u S1 H1 _ a1 _ r1 hp => ?_⟩
    cases e1 : slot ρ1 i with
    | none => rw [e1] at hp; exact hp.elim
    | some p =>
      rw [e1] at hp
      obtain ⟨v', S2, hv', s2, s3, r2⟩ := a1.look e1
      rw [hv] at hv'
      cases hv'
      cases e : g p q with
      | none => simp only [e] at hp; exact hp.elim
      | some z =>
        simp only [e] at hp
        exact hr S2 H1 v u p q z _ s3 r2 (r1.up s2) e fun v' S3 H3 st rz => hp S1 _ H3 ((a1.step (step_of a1.sub st)).setSh (rz.sc (hs _ _ _ e)))

/-! ### what changes an owned object in a slot -/
/-- by values: the object at b, the arguments; g: what it becomes, what comes back -/
def MutOk (K : PySem.W.Frag) (r : V → List V → Hp → VK → Prop) (g : PV → List PV → Option (PV × PV)) : Prop :=
  ∀ (S H : Hp) (b : Addr) (o : HO) (p q z : PV) (ps : List PV) (vs : List V) (Q : VK), Same S H → S b = none → H b = some o → OwnO K S p o → RepL K S ps vs → g p ps = some (q, z) → (∀ o' v, OwnO K S q o' → Rep K S z v → Q v (upd H b o')) → r (.ref b) vs H Q
def ownAt (ρ : Env) (i : Nat) : Option (Sl × PV) := match ρ[i]? with
  | some (.ow p) => some (.ow p, p)
  | some (.io p) => some (.io p, p)
  | _ => none
theorem ownAt_some {ρ : Env} {i : Nat} {s : Sl} {p : PV} (h : ownAt ρ i = some (s, p)) : ρ[i]? = some s ∧ s.own? = some p := by
  unfold ownAt at h
  split at h
  · cases h; exact ⟨by assumption, rfl⟩
  · cases h; exact ⟨by assumption, rfl⟩
  · cases h
def isT (T : String) : PV → Bool
  | .lst _ => T = "list"
  | .dic _ _ _ => T = "dict"
  | _ => false
theorem tyV_own {S H : Hp} {T : String} {p : PV} {a : Addr} {o : HO} (h : H a = some o) (w : OwnO K S p o) (t : isT T p = true) : tyV K T (.ref a) H := by
  unfold OwnO at w
  split at w
  · exact .inl ⟨by simpa [isT] using t, _, .inl (.inl h)⟩
  · exact .inr (.inr (.inl ⟨by simpa [isT] using t, .inl ⟨_, h⟩⟩))
  · exact .inr (.inr (.inl ⟨by simpa [isT] using t, .inr ⟨_, h⟩⟩))
  · exact w.elim
def dMut (T : String) (g : PV → List PV → Option (PV × PV)) (i : Nat) (da : DenL) : Den := fun ρ => match ownAt ρ i with
  | none => .bad
  | some (_, p0) => if isT T p0 = true then (da ρ).bind fun ps ρ1 => match ownAt ρ1 i with
    | none => .bad
    | some (s, p) => match g p ps with
      | none => .bad
      | some (q, z) => .ok z (ρ1.set i (s.with q))
    else .bad
theorem eo_mut {T : String} {i : Nat} {ta : TA} {da : DenL} {r : V → List V → Hp → VK → Prop} {g : PV → List PV → Option (PV × PV)} (ha : AOk K mg W ta da) (hr : MutOk K r g) : EOk K mg W (tBM K T r (tVar i) ta) (dMut T g i da) := fun H₀ S₀ M S σ H ρ Q ab hp => by
  unfold dMut at hp
  cases e0 : ownAt ρ i with
  | none => rw [e0] at hp; exact hp.elim
  | some sp =>
    obtain ⟨s0, p0⟩ := sp
    rw [e0] at hp
    by_cases ht : isT T p0 = true
    · simp only [if_pos ht] at hp
      obtain ⟨e1, e2⟩ := ownAt_some e0
      obtain ⟨b, o, h1, h2, h3, h4, h5, h6⟩ := ab.own i _ _ e1 e2
      refine ⟨.ref b, h1, tyV_own h5 h6 ht, ?_⟩
      refine ha.bind (Rl' := rV K) ab hp fun ps ρ1 vs S1 H1 _ a1 s1 r1 hp => ?_
      cases e3 : ownAt ρ1 i with
      | none => rw [e3] at hp; exact hp.elim
      | some sp =>
        obtain ⟨s, p⟩ := sp
        rw [e3] at hp
        obtain ⟨e4, e5⟩ := ownAt_some e3
        obtain ⟨b', o', k1, k2, k3, k4, k5, k6⟩ := a1.own i _ _ e4 e5
        rw [h1] at k1
        cases k1
        cases e6 : g p ps with
        | none => simp only [e6] at hp; exact hp.elim
        | some qz =>
          obtain ⟨q, z⟩ := qz
          simp only [e6] at hp
          exact hr S1 H1 b o' p q z ps vs Q a1.sub k4 k5 k6 r1 e6 fun o2 v w2 rz => hp v S1 _ (a1.mut e4 e5 h1 w2) rz
    · simp only [if_neg ht] at hp
      exact hp.elim
def dMut0 (T : String) (g : PV → List PV → Option (PV × PV)) (i : Nat) : Den := fun ρ => match ownAt ρ i with
  | none => .bad
  | some (s, p) => if isT T p = true then (match g p [] with
      | none => .bad
      | some (q, z) => .ok z (ρ.set i (s.with q))) else .bad
theorem eo_mut0 {T : String} {i : Nat} {r : V → List V → Hp → VK → Prop} {g : PV → List PV → Option (PV × PV)} (hr : MutOk K r g) : EOk K mg W (tBM0 K T r (tVar i)) (dMut0 T g i) := fun H₀ S₀ M S σ H ρ Q ab hp => by
  unfold dMut0 at hp
  cases e0 : ownAt ρ i with
  | none => rw [e0] at hp; exact hp.elim
  | some sp =>
    obtain ⟨s, p⟩ := sp
    rw [e0] at hp
    by_cases ht : isT T p = true
    · simp only [if_pos ht] at hp
      obtain ⟨e1, e2⟩ := ownAt_some e0
      obtain ⟨b, o, h1, h2, h3, h4, h5, h6⟩ := ab.own i _ _ e1 e2
      refine ⟨.ref b, h1, tyV_own h5 h6 ht, ?_⟩
      cases e6 : g p [] with
      | none => simp only [e6] at hp; exact hp.elim
      | some qz =>
        obtain ⟨q, z⟩ := qz
        simp only [e6] at hp
        exact hr S H b o p q z [] [] Q ab.sub h4 h5 h6 .nil e6 fun o2 v w2 rz => hp v S _ (ab.mut e1 e2 h1 w2) rz
    · simp only [if_neg ht] at hp
      exact hp.elim
/-- x[e] = v by values -/
def SetOk (K : PySem.W.Frag) (t : TSet) (g : PV → PV → PV → Option PV) : Prop :=
  ∀ (S H : Hp) (b : Addr) (o : HO) (p i e q : PV) (x y : V) (Q : Hp → Prop), Same S H → S b = none → H b = some o → OwnO K S p o → Rep K S i x → Rep K S e y → g p i e = some q → (∀ o', OwnO K S q o' → Q (upd H b o')) → t (.ref b) x y H Q
def sSub (g : PV → PV → PV → Option PV) (i : Nat) (di da : Den) : DenS := fun ρ => (da ρ).bindS fun e ρ1 => match ownAt ρ1 i with
  | none => .bad
  | some _ => (di ρ1).bindS fun k ρ2 => match ownAt ρ2 i with
    | none => .bad
    | some (s, p) => match g p k e with
      | none => .bad
      | some q => .nx (ρ2.set i (s.with q))
theorem so_sub {i : Nat} {ti te : TE} {di da : Den} {t : TSet} {g : PV → PV → PV → Option PV} (hi : EOk K mg W ti di) (ha : EOk K mg W te da) (hr : SetOk K t g) : SOk K mg W fr (tAsg te (gSub (tVar i) ti t)) (sSub g i di da) := fun H₀ S₀ M S σ H ρ D ab hp =>
  ha.bindS ab hp fun e ρ1 y S1 H1 _ a1 _ ry hp => by
    cases e0 : ownAt ρ1 i with
    | none => rw [e0] at hp; exact hp.elim
    | some sp =>
      obtain ⟨s0, p0⟩ := sp
      rw [e0] at hp
      obtain ⟨e1, e2⟩ := ownAt_some e0
      obtain ⟨b, o, h1, h2, h3, h4, h5, h6⟩ := a1.own i _ _ e1 e2
      refine ⟨.ref b, h1, ?_⟩
      refine hi.bindS a1 hp fun k ρ2 x S2 H2 _ a2 s2 rx hp => ?_
      cases e3 : ownAt ρ2 i with
      | none => rw [e3] at hp; exact hp.elim
      | some sp =>
        obtain ⟨s, p⟩ := sp
        rw [e3] at hp
        obtain ⟨e4, e5⟩ := ownAt_some e3
        obtain ⟨b', o', k1, k2, k3, k4, k5, k6⟩ := a2.own i _ _ e4 e5
        rw [h1] at k1
        cases k1
        cases e6 : g p k e with
        | none => simp only [e6] at hp; exact hp.elim
        | some q =>
          simp only [e6] at hp
          exact hr S2 H2 b o' p k e q x y _ a2.sub k4 k5 k6 rx (ry.up s2) e6 fun o2 w2 => hp S2 σ _ (a2.mut e4 e5 h1 w2)

/-! ### loops -/
def ItR (K : PySem.W.Frag) (S H : Hp) (ps : List PV) (J : It) : Prop :=
  ∀ (i : Nat) (S1 H1 : Hp), Same S S1 → Same S1 H1 → (ps.length ≤ i → J.stop i H1) ∧ ∀ p, ps[i]? = some p → J.go i H1 ∧ ∀ x H2, J.yld i H1 x H2 → ∃ S2, Step S1 H1 S2 H2 ∧ Rep K S2 p x
def rIt (K : PySem.W.Frag) : RelT (List PV) It := fun _ S H _ _ ps J => ItR K S H ps J
abbrev IOk (K : PySem.W.Frag) (mg : Str → Option Value) (W : WX) (wi : TI) (d : DenL) : Prop := XOk K mg W (rIt K) wi d
def dLoop (tgt : DenG) (body : DenS) : List PV → DenS
  | [], ρ => .nx ρ
  | x :: xs, ρ => match tgt x ρ with
    | none => .bad
    | some ρ1 => match body ρ1 with
      | .nx ρ2 => dLoop tgt body xs ρ2
      | .ct ρ2 => dLoop tgt body xs ρ2
      | .bk ρ2 => .nx ρ2
      | r => r
def sFor (di : DenL) (tgt : DenG) (body : DenS) : DenS := fun ρ => (di ρ).bindS fun xs ρ1 => dLoop tgt body xs ρ1
theorem so_for {wi : TI} {di : DenL} {g : TG} {dg : DenG} {tb : TS} {db : DenS} (hi : IOk K mg W wi di) (hg : GOk K g dg) (hb : SOk K mg W fr tb db) : SOk K mg W fr (tFor wi g tb) (sFor di dg db) := fun H₀ S₀ M S σ H ρ D ab hp =>
  hi.bindS ab hp fun xs ρ1 J S1 H1 _ a1 _ rj hp => by
    refine ⟨fun i m σ H => m = xs.length - i ∧ i ≤ xs.length ∧ ∃ S ρ, Abs K H₀ S1 M S σ H ρ ∧ SPost K mg W fr H₀ S1 M (dLoop dg db (xs.drop i) ρ) D, ⟨xs.length, by simp, Nat.zero_le _, S1, ρ1, a1.rebase, by
      rw [List.drop_zero]
      exact hp.rebase a1⟩, ?_⟩
    rintro i m σ' H' ⟨rfl, hle, S', ρ', a', hp'⟩
    obtain ⟨js, jg⟩ := rj i S' H' a'.base a'.sub
    by_cases hlt : i < xs.length
    · have ex : xs[i]? = some xs[i] := List.getElem?_eq_getElem hlt
      obtain ⟨j1, j2⟩ := jg _ ex
      rw [List.drop_eq_getElem_cons hlt] at hp'
      refine .inr ⟨j1, fun σ H => i + 1 ≤ xs.length ∧ ∃ S ρ, Abs K H₀ S1 M S σ H ρ ∧ SPost K mg W fr H₀ S1 M (dLoop dg db (xs.drop (i + 1)) ρ) D, fun σ2 H2 hN => ⟨xs.length - (i + 1), by omega, rfl, hN.1, hN.2⟩, fun x H2 y => ?_⟩
      obtain ⟨S2, st, rx⟩ := j2 x H2 y
      unfold dLoop at hp'
      cases e1 : dg xs[i] ρ' with
      | none => simp only [e1] at hp'; exact hp'.elim
      | some ρ2 =>
        simp only [e1] at hp'
        refine hg H₀ S1 M S2 σ' H2 ρ' ρ2 _ x _ (a'.step st) rx e1 fun σ3 a3 => ?_
        refine hb H₀ S1 M S2 σ3 H2 ρ2 _ a3 ?_
        cases e2 : db ρ2 with
        | bad => simp only [e2] at hp'; exact hp'.elim
        | exc x ρ3 => simp only [e2] at hp'; exact hp'
        | rt p ρ3 => simp only [e2] at hp'; exact hp'
        | nx ρ3 => simp only [e2] at hp'; exact fun S4 σ4 H4 a4 => ⟨hlt, S4, ρ3, a4, hp'⟩
        | ct ρ3 => simp only [e2] at hp'; exact fun S4 σ4 H4 a4 => ⟨hlt, S4, ρ3, a4, hp'⟩
        | bk ρ3 => simp only [e2] at hp'; exact fun S4 σ4 H4 a4 => hp' S4 σ4 H4 a4
    · have ei : i = xs.length := by omega
      subst ei
      rw [List.drop_length] at hp'
      exact .inl ⟨js (Nat.le_refl _), hp' S' σ' H' a'⟩
def dWhile (dc : DenB) (db : DenS) : Nat → DenS
  | 0, _ => .bad
  | n + 1, ρ => (dc ρ).bindS fun c ρ1 => if c = true then (match db ρ1 with
      | .nx ρ2 => dWhile dc db n ρ2
      | .ct ρ2 => dWhile dc db n ρ2
      | .bk ρ2 => .nx ρ2
      | r => r) else .nx ρ1
/-- the number of turns is bounded by what the state says ahead of the loop -/
def sWhile (μ : Env → Nat) (dc : DenB) (db : DenS) : DenS := fun ρ => dWhile dc db (μ ρ) ρ
theorem so_while {μ : Env → Nat} {tc : TT} {dc : DenB} {tb : TS} {db : DenS} (hc : TOk K mg W tc dc) (hb : SOk K mg W fr tb db) : SOk K mg W fr (tWhile tc tb) (sWhile μ dc db) := fun H₀ S₀ M S σ H ρ D ab hp => by
  refine ⟨fun m σ H => ∃ S ρ, Abs K H₀ S₀ M S σ H ρ ∧ SPost K mg W fr H₀ S₀ M (dWhile dc db m ρ) D, ⟨μ ρ, S, ρ, ab, hp⟩, ?_⟩
  rintro m σ' H' ⟨S', ρ', a', hp'⟩
  cases m with
  | zero => exact hp'.elim
  | succ n =>
    unfold dWhile at hp'
    refine hc.bindS a' hp' fun c ρ1 b S1 H1 _ a1 _ r hp' => ?_
    cases r
    cases c with
    | false => exact hp' S1 σ' H1 a1
    | true =>
      refine ⟨fun σ H => ∃ S ρ, Abs K H₀ S₀ M S σ H ρ ∧ SPost K mg W fr H₀ S₀ M (dWhile dc db n ρ) D, fun σ2 H2 h2 => ⟨n, Nat.lt_succ_self _, h2⟩, ?_⟩
      refine hb H₀ S₀ M S1 σ' H1 ρ1 _ a1 ?_
      simp only [if_true] at hp'
      cases e2 : db ρ1 with
      | bad => simp only [e2] at hp'; exact hp'.elim
      | exc x ρ3 => simp only [e2] at hp'; exact hp'
      | rt p ρ3 => simp only [e2] at hp'; exact hp'
      | nx ρ3 => simp only [e2] at hp'; exact fun S4 σ4 H4 a4 => ⟨S4, ρ3, a4, hp'⟩
      | ct ρ3 => simp only [e2] at hp'; exact fun S4 σ4 H4 a4 => ⟨S4, ρ3, a4, hp'⟩
      | bk ρ3 => simp only [e2] at hp'; exact fun S4 σ4 H4 a4 => hp' S4 σ4 H4 a4
end
end PL

set_option Elab.async false
set_option linter.all false
set_option maxRecDepth 100000
set_option maxHeartbeats 4000000
namespace PL
open PySem PySem.Spec L2
set_option autoImplicit false

/-! ### comprehensions -/
def Sl.lock : Sl → Sl
  | .ow p => .io p
  | s => s
def Sl.isOw : Sl → Bool
  | .ow _ => true
  | _ => false
/-- the owned slots are lent to the block, its own names are free -/
def lockE : List Nat → Env → Env
  | [], ρ => ρ.map Sl.lock
  | i :: is, ρ => (lockE is ρ).set i .un
def Sl.back : Sl → Sl → Sl
  | .ow _, .io q => .ow q
  | .io _, .io q => .io q
  | _, .sh p => .sh p
  | _, _ => .un
def clean : Sl → Sl
  | .sh p => .sh p
  | _ => .un
def backE (own : List Nat) (ρ ρ' : Env) : Env := (List.range ρ.length).map fun i => if own.contains i then clean (ρ.getD i .un) else Sl.back (ρ.getD i .un) (ρ'.getD i .un)
def noOw : Env → Bool
  | [] => true
  | s :: r => !s.isOw && noOw r
def wipeE : List Nat → Env → Env
  | [], ρ => ρ
  | i :: is, ρ => (wipeE is ρ).set i .un
def lcLoop (own : List Nat) (tgt : DenG) (test : DenB) (elt : Den) : List PV → Env → Option (List PV × Env)
  | [], ρ => some ([], ρ)
  | x :: xs, ρ => match tgt x ρ with
    | none => none
    | some ρ1 => match test ρ1 with
      | .ok true ρ2 => match elt ρ2 with
        | .ok y ρ3 => if noOw ρ3 = true then (match lcLoop own tgt test elt xs (wipeE own ρ3) with
            | some (ys, ρ4) => some (y :: ys, ρ4)
            | none => none) else none
        | _ => none
      | .ok false ρ2 => if noOw ρ2 = true then lcLoop own tgt test elt xs (wipeE own ρ2) else none
      | _ => none
def dLc (own : List Nat) (di : DenL) (tgt : DenG) (test : DenB) (elt : Den) : Den := fun ρ => (di ρ).bind fun xs ρ1 => match lcLoop own tgt test elt xs (lockE own ρ1) with
  | some (ys, ρ2) => if ys.length ≤ 1000000 then .ok (.lst ys) (backE own ρ1 ρ2) else .bad
  | none => .bad
theorem noOw_get : ∀ {ρ : Env} {i : Nat} {p : PV}, noOw ρ = true → ρ[i]? ≠ some (.ow p)
  | [], i, p, _ => by simp
  | s :: r, 0, p, h => by
    intro e
    simp at e
    subst e
    simp [noOw, Sl.isOw] at h
  | s :: r, i + 1, p, h => by
    intro e
    simp [noOw] at h
    exact noOw_get (i := i) h.2 (by simpa using e)
section
variable {K : PySem.W.Frag} {mg : Str → Option Value} {W : WX} {H₀ S₀ : Hp} {M : Addr → Prop} {S H : Hp} {σ : St} {ρ : Env}
/-- slots lose what they held -/
theorem Abs.forget {σ' : St} {ρ' : Env} (a : Abs K H₀ S₀ M S σ H ρ) (hl : ρ'.length = σ'.length) (h : ∀ (i : Nat) s, ρ'[i]? = some s → s ≠ .un → ρ[i]? = some s ∧ σ'[i]? = σ[i]?) : Abs K H₀ S₀ M S σ' H ρ' where
  len := hl
  sub := a.sub
  base := a.base
  grow := a.grow
  keep := a.keep
  there := a.there
  sh := fun i p e => by
    obtain ⟨h1, h2⟩ := h i _ e (by intro z; cases z)
    rw [h2]
    exact a.sh i p h1
  own := fun i s p e es => by
    obtain ⟨h1, h2⟩ := h i _ e (by intro z; subst z; cases es)
    rw [h2]
    exact a.own i s p h1 es
  dis := fun i j s t p q b e es e' es' z z' => by
    obtain ⟨h1, h2⟩ := h i _ e (by intro z; subst z; cases es)
    obtain ⟨k1, k2⟩ := h j _ e' (by intro z; subst z; cases es')
    rw [h2] at z
    rw [k2] at z'
    exact a.dis i j s t p q b h1 es k1 es' z z'
theorem getElem?_wipe {i : Nat} : ∀ {own : List Nat} {σ : St}, i ∉ own → (wipe σ own)[i]? = σ[i]?
  | [], σ, _ => rfl
  | j :: js, σ, h => by
    have hj : j ≠ i := fun e => h (by simp [e])
    have hjs : i ∉ js := fun e => h (by simp [e])
    show ((wipe σ js).set j none)[i]? = σ[i]?
    rw [List.getElem?_set_ne hj]
    exact getElem?_wipe hjs
theorem wipeE_length : ∀ (own : List Nat) (ρ : Env), (wipeE own ρ).length = ρ.length
  | [], _ => rfl
  | i :: is, ρ => by
    show ((wipeE is ρ).set i .un).length = _
    rw [List.length_set, wipeE_length is ρ]
theorem wipeE_get : ∀ {own : List Nat} {ρ : Env} {i : Nat} {s : Sl}, (wipeE own ρ)[i]? = some s → s ≠ .un → i ∉ own ∧ ρ[i]? = some s
  | [], ρ, i, s, e, _ => ⟨by simp, e⟩
  | j :: js, ρ, i, s, e, n => by
    have e : ((wipeE js ρ).set j .un)[i]? = some s := e
    by_cases hj : j = i
    · subst hj
      have hi : j < (wipeE js ρ).length := by
        rcases Nat.lt_or_ge j (wipeE js ρ).length with h | h
        · exact h
        · rw [List.getElem?_eq_none (by rw [List.length_set]; exact h)] at e; cases e
      rw [List.getElem?_set_self hi] at e
      cases e
      exact absurd rfl n
    · rw [List.getElem?_set_ne hj] at e
      obtain ⟨h1, h2⟩ := wipeE_get e n
      exact ⟨by simp [h1, Ne.symm hj], h2⟩
theorem lockE_length : ∀ (own : List Nat) (ρ : Env), (lockE own ρ).length = ρ.length
  | [], ρ => by simp [lockE]
  | i :: is, ρ => by
    show ((lockE is ρ).set i .un).length = _
    rw [List.length_set, lockE_length is ρ]
theorem lockE_get : ∀ {own : List Nat} {ρ : Env} {i : Nat} {s : Sl}, (lockE own ρ)[i]? = some s → s ≠ .un → i ∉ own ∧ ∃ s', ρ[i]? = some s' ∧ s = s'.lock
  | [], ρ, i, s, e, _ => by
    have e : (ρ.map Sl.lock)[i]? = some s := e
    rw [List.getElem?_map] at e
    cases e1 : ρ[i]? with
    | none => rw [e1] at e; cases e
    | some s' =>
      rw [e1] at e
      cases e
      exact ⟨by simp, s', rfl, rfl⟩
  | j :: js, ρ, i, s, e, n => by
    have e : ((lockE js ρ).set j .un)[i]? = some s := e
    by_cases hj : j = i
    · subst hj
      have hi : j < (lockE js ρ).length := by
        rcases Nat.lt_or_ge j (lockE js ρ).length with h | h
        · exact h
        · rw [List.getElem?_eq_none (by rw [List.length_set]; exact h)] at e; cases e
      rw [List.getElem?_set_self hi] at e
      cases e
      exact absurd rfl n
    · rw [List.getElem?_set_ne hj] at e
      obtain ⟨h1, h2⟩ := lockE_get e n
      exact ⟨by simp [h1, Ne.symm hj], h2⟩
def Lent (σ : St) (ρ : Env) (a : Addr) : Prop := ∃ (i : Nat) (s : Sl) (p : PV), ρ[i]? = some s ∧ s.own? = some p ∧ σ[i]? = some (some (.ref a))
theorem wipe_len (σ : St) (own : List Nat) : (wipe σ own).length = σ.length := wipe_length σ own
/-- into the block: what stands now is the base, the owned slots are lent -/
theorem Abs.enter (own : List Nat) (a : Abs K H₀ S₀ M S σ H ρ) : Abs K H S (Lent σ ρ) S (wipe σ own) H (lockE own ρ) where
  len := by rw [lockE_length, wipe_len]; exact a.len
  sub := a.sub
  base := Same.refl _
  grow := fun _ _ e => .inl e
  keep := fun _ _ e _ => e
  there := fun b o e => ⟨o, e⟩
  sh := fun i p e => by
    obtain ⟨h1, s', h2, h3⟩ := lockE_get e (by intro z; cases z)
    rw [getElem?_wipe h1]
    cases s' with
    | sh q => cases h3; exact a.sh i _ h2
    | _ => cases h3
  own := fun i s p e es => by
    obtain ⟨h1, s', h2, h3⟩ := lockE_get e (by intro z; subst z; cases es)
    rw [getElem?_wipe h1]
    have key : ∀ q, s'.own? = some q → s = .io q ∧ p = q := fun q hq => by
      cases s' with
      | ow r => cases hq; subst h3; cases es; exact ⟨rfl, rfl⟩
      | io r => cases hq; subst h3; cases es; exact ⟨rfl, rfl⟩
      | un => cases hq
      | sh r => cases hq
    have hs' : s'.own? = some p := by
      cases s' with
      | ow r => subst h3; cases es; rfl
      | io r => subst h3; cases es; rfl
      | un => subst h3; cases es
      | sh r => subst h3; cases es
    obtain ⟨rfl, _⟩ := key p hs'
    obtain ⟨b, o, k1, k2, k3, k4, k5, k6⟩ := a.own i s' p h2 hs'
    exact ⟨b, o, k1, (fun z => by cases z), fun _ => ⟨i, s', p, h2, hs', k1⟩, k4, k5, k6⟩
  dis := fun i j s t p q b e es e' es' z z' => by
    obtain ⟨h1, s1, h2, h3⟩ := lockE_get e (by intro z; subst z; cases es)
    obtain ⟨k1, s2, k2, k3⟩ := lockE_get e' (by intro z; subst z; cases es')
    rw [getElem?_wipe h1] at z
    rw [getElem?_wipe k1] at z'
    have key : ∀ {s' s : Sl} {p : PV}, s = s'.lock → s.own? = some p → s'.own? = some p := fun {s' s p} h3 es => by
      cases s' with
      | ow r => subst h3; cases es; rfl
      | io r => subst h3; cases es; rfl
      | un => subst h3; cases es
      | sh r => subst h3; cases es
    exact a.dis i j s1 s2 p q b h2 (key h3 es) k2 (key k3 es') z z'
/-- a turn's base is what stands at its start -/
theorem Abs.here (a : Abs K H₀ S₀ M S σ H ρ) (n : noOw ρ = true) : Abs K H S M S σ H ρ where
  len := a.len
  sub := a.sub
  base := Same.refl _
  grow := fun _ _ e => .inl e
  keep := fun _ _ e _ => e
  there := fun b o e => ⟨o, e⟩
  sh := a.sh
  own := fun i s p e es => by
    obtain ⟨b, o, k1, k2, k3, k4, k5, k6⟩ := a.own i s p e es
    refine ⟨b, o, k1, fun z => ?_, k3, k4, k5, k6⟩
    subst z
    exact absurd e (noOw_get n)
  dis := a.dis
theorem Abs.along {S' H' : Hp} {σ' : St} {ρ' : Env} (a : Abs K H₀ S₀ M S σ H ρ) (b : Abs K H S M S' σ' H' ρ') (n : noOw ρ' = true) : Abs K H₀ S₀ M S' σ' H' ρ' where
  len := b.len
  sub := b.sub
  base := a.base.trans b.base
  grow := fun c o e => by
    rcases b.grow c o e with h | h
    · exact a.grow c o h
    · exact .inr (a.nt0 h)
  keep := fun c o e m => b.keep c o (a.keep c o e m) m
  there := fun c o e => by
    obtain ⟨o1, h1⟩ := a.there c o e
    exact b.there c o1 h1
  sh := b.sh
  own := fun i s p e es => by
    obtain ⟨c, o, k1, k2, k3, k4, k5, k6⟩ := b.own i s p e es
    refine ⟨c, o, k1, fun z => ?_, k3, k4, k5, k6⟩
    subst z
    exact absurd e (noOw_get n)
  dis := b.dis
theorem backE_get {own : List Nat} {ρ ρ' : Env} {i : Nat} {s : Sl} (e : (backE own ρ ρ')[i]? = some s) (n : s ≠ .un) :
    (i ∈ own ∧ ∃ p, s = .sh p ∧ ρ[i]? = some (.sh p)) ∨ (i ∉ own ∧ ∃ t t', ρ[i]? = some t ∧ ρ'[i]? = some t' ∧ s = Sl.back t t') := by
  unfold backE at e
  rw [List.getElem?_map] at e
  cases e1 : (List.range ρ.length)[i]? with
  | none => rw [e1] at e; cases e
  | some j =>
    rw [e1] at e
    have hi : i < ρ.length := by
      rcases Nat.lt_or_ge i ρ.length with h | h
      · exact h
      · rw [List.getElem?_eq_none (by simpa using h)] at e1; cases e1
    have hj : i = j := by
      rw [List.getElem?_range hi] at e1
      cases e1; rfl
    subst hj
    have er : ρ.getD i .un = ρ[i] := by simp [List.getD, hi]
    have ei : ρ[i]? = some ρ[i] := List.getElem?_eq_getElem hi
    by_cases hc : own.contains i = true
    · simp only [Option.map_some, hc, if_true, er, Option.some.injEq] at e
      refine .inl ⟨by simpa using hc, ?_⟩
      rw [ei]
      cases ex : ρ[i] with
      | sh p => rw [ex] at e; exact ⟨p, e.symm, rfl⟩
      | _ => rw [ex] at e; exact absurd e.symm n
    · simp only [Option.map_some, hc, Bool.false_eq_true, if_false, er, Option.some.injEq] at e
      refine .inr ⟨by simpa using hc, ?_⟩
      cases e2 : ρ'[i]? with
      | none =>
        have : ρ'.getD i .un = .un := by simp [List.getD, e2]
        rw [this] at e
        cases ex : ρ[i] <;> rw [ex] at e <;> exact absurd e.symm n
      | some t' =>
        have : ρ'.getD i .un = t' := by simp [List.getD, e2]
        rw [this] at e
        exact ⟨_, t', ei, rfl, e.symm⟩
/-- out of the block -/
theorem Abs.exit {own : List Nat} {S1 H1 : Hp} {ρ1 : Env} (a : Abs K H₀ S₀ M S σ H ρ) (b : Abs K H S (Lent σ ρ) S1 (wipe σ own) H1 ρ1) : Abs K H₀ S₀ M S1 σ H1 (backE own ρ ρ1) where
  len := by
    unfold backE
    rw [List.length_map, List.length_range]
    exact a.len
  sub := b.sub
  base := a.base.trans b.base
  grow := fun c o e => by
    rcases b.grow c o e with h | h
    · exact a.grow c o h
    · exact .inr (a.nt0 h)
  keep := fun c o e m => by
    refine b.keep c o (a.keep c o e m) fun ⟨i, s, p, h1, h2, h3⟩ => ?_
    obtain ⟨c', o', k1, k2, k3, _⟩ := a.own i s p h1 h2
    rw [h3] at k1
    cases k1
    cases s with
    | ow q => cases h2; rw [k2 rfl] at e; cases e
    | io q => cases h2; exact m (k3 rfl)
    | un => cases h2
    | sh q => cases h2
  there := fun c o e => by
    obtain ⟨o1, h1⟩ := a.there c o e
    exact b.there c o1 h1
  sh := fun i p e => by
    rcases backE_get e (by intro z; cases z) with ⟨_, q, hq, h2⟩ | ⟨h1, t, t', h2, h3, h4⟩
    · cases hq
      obtain ⟨v, k1, k2⟩ := a.sh i _ h2
      exact ⟨v, k1, k2.up b.base⟩
    · have ht : t' = .sh p := by
        cases t <;> cases t' <;> simp [Sl.back] at h4 <;> first | (subst h4; rfl) | skip
      subst ht
      obtain ⟨v, k1, k2⟩ := b.sh i p h3
      rw [getElem?_wipe h1] at k1
      exact ⟨v, k1, k2⟩
  own := fun i s p e es => by
    rcases backE_get e (by intro z; subst z; cases es) with ⟨_, q, hq, h2⟩ | ⟨h1, t, t', h2, h3, h4⟩
    · subst hq; cases es
    · have ht : t' = .io p ∧ ((∃ q, t = .ow q ∧ s = .ow p) ∨ ∃ q, t = .io q ∧ s = .io p) := by
        cases t <;> cases t' <;> simp [Sl.back] at h4 <;> subst h4 <;> first | (cases es; done) | (cases es; exact ⟨rfl, .inl ⟨_, rfl, rfl⟩⟩) | (cases es; exact ⟨rfl, .inr ⟨_, rfl, rfl⟩⟩)
      obtain ⟨rfl, ht⟩ := ht
      obtain ⟨c, o, k1, k2, k3, k4, k5, k6⟩ := b.own i _ p h3 rfl
      rw [getElem?_wipe h1] at k1
      rcases ht with ⟨q, rfl, rfl⟩ | ⟨q, rfl, rfl⟩
      · obtain ⟨c', o', z1, z2, z3, _⟩ := a.own i _ q h2 rfl
        rw [k1] at z1
        cases z1
        exact ⟨c, o, k1, fun _ => z2 rfl, (fun z => by cases z), k4, k5, k6⟩
      · obtain ⟨c', o', z1, z2, z3, _⟩ := a.own i _ q h2 rfl
        rw [k1] at z1
        cases z1
        exact ⟨c, o, k1, (fun z => by cases z), fun _ => z3 rfl, k4, k5, k6⟩
  dis := fun i j s t p q c e es e' es' z z' => by
    have key : ∀ {i : Nat} {s : Sl} {p : PV}, (backE own ρ ρ1)[i]? = some s → s.own? = some p → i ∉ own ∧ ρ1[i]? = some (.io p) := fun {i s p} e es => by
      rcases backE_get e (by intro z; subst z; cases es) with ⟨_, q, hq, h2⟩ | ⟨h1, t, t', h2, h3, h4⟩
      · subst hq; cases es
      · have ht : t' = .io p := by
          cases t <;> cases t' <;> simp [Sl.back] at h4 <;> subst h4 <;> first | (cases es; done) | (cases es; rfl)
        subst ht
        exact ⟨h1, h3⟩
    obtain ⟨h1, h2⟩ := key e es
    obtain ⟨k1, k2⟩ := key e' es'
    exact b.dis i j _ _ _ _ c h2 rfl k2 rfl (by rw [getElem?_wipe h1]; exact z) (by rw [getElem?_wipe k1]; exact z')

theorem noOw_map : ∀ l : Env, noOw (l.map Sl.lock) = true
  | [] => rfl
  | s :: r => by cases s <;> simp [noOw, Sl.lock, Sl.isOw, noOw_map r]
theorem noOw_set : ∀ (l : Env) (i : Nat), noOw l = true → noOw (l.set i .un) = true
  | [], _, h => h
  | s :: r, 0, h => by
    simp [noOw] at h ⊢
    exact ⟨rfl, h.2⟩
  | s :: r, i + 1, h => by
    simp [noOw] at h ⊢
    exact ⟨h.1, noOw_set r i h.2⟩
theorem noOw_lockE : ∀ (own : List Nat) (ρ : Env), noOw (lockE own ρ) = true
  | [], ρ => noOw_map ρ
  | i :: is, ρ => noOw_set _ _ (noOw_lockE is ρ)
theorem noOw_wipeE : ∀ (own : List Nat) (ρ : Env), noOw ρ = true → noOw (wipeE own ρ) = true
  | [], _, h => h
  | i :: is, ρ, h => noOw_set _ _ (noOw_wipeE is ρ h)
theorem wipe_set : ∀ {own : List Nat} {i : Nat} {x : Option V} {σ : St}, i ∈ own → wipe (σ.set i x) own = wipe σ own
  | j :: js, i, x, σ, h => by
    show (wipe (σ.set i x) js).set j none = (wipe σ js).set j none
    by_cases hj : i ∈ js
    · rw [wipe_set hj]
    · have e : i = j := by
        rcases List.mem_cons.mp h with e | e
        · exact e
        · exact absurd e hj
      subst e
      apply List.ext_getElem?
      intro k
      by_cases hk : k = i
      · subst hk
        by_cases hl : k < σ.length
        · rw [List.getElem?_set_self (by rw [wipe_len, List.length_set]; exact hl), List.getElem?_set_self (by rw [wipe_len]; exact hl)]
        · rw [List.getElem?_eq_none (by rw [List.length_set, wipe_len, List.length_set]; omega), List.getElem?_eq_none (by rw [List.length_set, wipe_len]; omega)]
      · rw [List.getElem?_set_ne (Ne.symm hk), List.getElem?_set_ne (Ne.symm hk)]
        by_cases hkj : k ∈ js
        · have w0 : ∀ {l : List Nat} {τ : St}, k ∈ l → (wipe τ l)[k]? = (if k < τ.length then some none else none) := fun {l} => by
            induction l with
            | nil => intro τ h; cases h
            | cons a r ih =>
              intro τ h
              show ((wipe τ r).set a none)[k]? = _
              by_cases ha : a = k
              · subst ha
                by_cases hl : a < τ.length
                · rw [List.getElem?_set_self (by rw [wipe_len]; exact hl), if_pos hl]
                · rw [List.getElem?_eq_none (by rw [List.length_set, wipe_len]; omega), if_neg hl]
              · rw [List.getElem?_set_ne ha]
                rcases List.mem_cons.mp h with e | e
                · exact absurd e.symm ha
                · exact ih e
          rw [w0 hkj, w0 hkj, List.length_set]
        · rw [getElem?_wipe hkj, getElem?_wipe hkj, List.getElem?_set_ne (Ne.symm hk)]
theorem wipe_wipe : ∀ (own : List Nat) (σ : St), wipe (wipe σ own) own = wipe σ own := fun own σ => by
  have key : ∀ (l : List Nat) (τ : St), (∀ i ∈ l, i ∈ own) → wipe (wipe τ l) own = wipe τ own := fun l => by
    induction l with
    | nil => intro τ _; rfl
    | cons a r ih =>
      intro τ h
      show wipe ((wipe τ r).set a none) own = _
      rw [wipe_set (h a List.mem_cons_self)]
      exact ih τ fun i hi => h i (List.mem_cons_of_mem _ hi)
  exact key own σ fun _ h => h
/-- a target stores to these slots alone -/
def TgW (own : List Nat) (g : TG) : Prop := ∀ (v : V) (τ : St) (H : Hp) (Q : St → Hp → Prop), g v τ H Q → g v τ H fun σ2 H2 => wipe σ2 own = wipe τ own ∧ Q σ2 H2
def TgsW (own : List Nat) (g : TGs) : Prop := ∀ (v : List V) (τ : St) (H : Hp) (Q : St → Hp → Prop), g v τ H Q → g v τ H fun σ2 H2 => wipe σ2 own = wipe τ own ∧ Q σ2 H2
/-- a target's wish may be weakened -/
theorem tw_name {own : List Nat} {i : Nat} (h : i ∈ own) : TgW own (L2.gName i) := fun v τ H Q q => ⟨wipe_set h, q⟩
theorem tws_nil {own : List Nat} : TgsW own L2.gNil := fun v τ H Q q => ⟨q.1, rfl, q.2⟩
theorem tws_name {own : List Nat} {i : Nat} {gs : TGs} (h : i ∈ own) (hs : TgsW own gs) : TgsW own (L2.gCons (L2.gName i) gs) := fun v τ H Q q => by
  obtain ⟨x, r, e, q⟩ := q
  refine ⟨x, r, e, ?_⟩
  have q : gs r (τ.set i (some x)) H Q := q
  have z := hs r _ H Q q
  rw [wipe_set h] at z
  exact z
theorem tw_tup {own : List Nat} {n : Nat} {gs : TGs} (h : TgsW own gs) : TgW own (L2.gTup K n gs) := fun v τ H Q q => by
  obtain ⟨a, xs, e, h1, h2, q⟩ := q
  exact ⟨a, xs, e, h1, h2, h _ _ _ _ q⟩
def GMono (g : TG) : Prop := ∀ (v : V) (τ : St) (H : Hp) (Q Q' : St → Hp → Prop), (∀ σ H, Q σ H → Q' σ H) → g v τ H Q → g v τ H Q'
def GsMono (g : TGs) : Prop := ∀ (v : List V) (τ : St) (H : Hp) (Q Q' : St → Hp → Prop), (∀ σ H, Q σ H → Q' σ H) → g v τ H Q → g v τ H Q'
theorem gm_name {i : Nat} : GMono (L2.gName i) := fun v τ H Q Q' h q => h _ _ q
theorem gms_nil : GsMono L2.gNil := fun v τ H Q Q' h q => ⟨q.1, h _ _ q.2⟩
theorem gms_cons {g : TG} {gs : TGs} (h1 : GMono g) (h2 : GsMono gs) : GsMono (L2.gCons g gs) := fun v τ H Q Q' h q => by
  obtain ⟨x, r, e, q⟩ := q
  exact ⟨x, r, e, h1 _ _ _ _ _ (fun σ H z => h2 _ _ _ _ _ h z) q⟩
theorem gm_tup {n : Nat} {gs : TGs} (h : GsMono gs) : GMono (L2.gTup K n gs) := fun v τ H Q Q' h' q => by
  obtain ⟨a, xs, e, h1, h2, q⟩ := q
  exact ⟨a, xs, e, h1, h2, h _ _ _ _ _ h' q⟩
/-- an object that no slot owns changes -/
theorem Abs.other {D : Addr} {o : HO} (a : Abs K H₀ S₀ M S σ H ρ) (h0 : H₀ D = none) (hS : S D = none) (hn : ∀ (i : Nat) s p, ρ[i]? = some s → s.own? = some p → σ[i]? ≠ some (some (.ref D))) : Abs K H₀ S₀ M S σ (upd H D o) ρ where
  len := a.len
  sub := fun b x e => by
    rw [upd_ne (fun z => by rw [z, hS] at e; cases e)]
    exact a.sub _ _ e
  base := a.base
  grow := a.grow
  keep := fun b x e m => by
    rw [upd_ne (fun z => by rw [z, h0] at e; cases e)]
    exact a.keep _ _ e m
  there := fun b x e => by
    rw [upd_ne (fun z => by rw [z, h0] at e; cases e)]
    exact a.there _ _ e
  sh := a.sh
  own := fun i s p e es => by
    obtain ⟨c, o', k1, k2, k3, k4, k5, k6⟩ := a.own i s p e es
    refine ⟨c, o', k1, k2, k3, k4, ?_, k6⟩
    rw [upd_ne, k5]
    intro z
    subst z
    exact hn i s p e es k1
  dis := a.dis
/-- a comprehension's walk: in its block nothing is raised -/
theorem lc_inner {g : TG} {dg : DenG} {tt : TT} {dt : DenB} {te : TE} {de : Den} {own : List Nat} {H₀ S₀ : Hp} {M : Addr → Prop} {S1 H1 : Hp} {σ : St} {ρ1 : Env} {Q : VK} {xs : List PV} {J : It} (hg : GOk K g dg) (hgw : TgW own g) (hgm : GMono g) (ht : TOk K mg (fun _ _ _ _ => False) tt dt) (he : EOk K mg (fun _ _ _ _ => False) te de) (a1 : Abs K H₀ S₀ M S1 σ H1 ρ1) (rj : ItR K S1 H1 xs J)
    (hp : Post K mg W (rF K) H₀ S₀ M σ (match lcLoop own dg dt de xs (lockE own ρ1) with
      | some (ys, ρ2) => if ys.length ≤ 1000000 then .ok (.lst ys) (backE own ρ1 ρ2) else .bad
      | none => .bad) Q) : ∀ D, H1 D = none → ∃ W : Nat → Nat → Hp → Prop, (∃ m, W 0 m (upd H1 D (.lst []))) ∧ ∀ i m H, W i m H →
  (J.stop i H ∧ Q (.ref D) H) ∨ (J.go i H ∧ ∃ Nx : Hp → Prop, (∀ H', Nx H' → ∃ m', m' < m ∧ W (i + 1) m' H') ∧ ∀ x H', J.yld i H x H' → g x (wipe σ own) H' fun σ2 H2 => wipe σ2 own = wipe σ own ∧ tt σ2 H2 fun b H3 =>
    if b = true then te σ2 H3 fun y H4 => ∃ acc, H4 D = some (.lst acc) ∧ acc.length < sizeLine ∧ Nx (upd H4 D (.lst (acc ++ [y]))) else Nx H3) := by
  intro D hD
  cases eL : lcLoop own dg dt de xs (lockE own ρ1) with
  | none => simp only [eL] at hp; exact hp.elim
  | some yr =>
    obtain ⟨ys, ρ2⟩ := yr
    simp only [eL] at hp
    by_cases hlen : ys.length ≤ 1000000
    · rw [if_pos hlen] at hp
      have hsz : (1000000 : Nat) < sizeLine := by rw [sizeLine_eq]; decide
      have nL : ¬ Lent σ ρ1 D := fun ⟨i, s, p, h1, h2, h3⟩ => by
        obtain ⟨c, o, k1, _, _, _, k5, _⟩ := a1.own i s p h1 h2
        rw [h3] at k1
        cases k1
        rw [hD] at k5; cases k5
      have nOwn : ∀ {S' : Hp} {σ' : St} {H' : Hp} {ρ' : Env}, Abs K H1 S1 (Lent σ ρ1) S' σ' H' ρ' → ∀ (i : Nat) s p, ρ'[i]? = some s → s.own? = some p → noOw ρ' = true → σ'[i]? ≠ some (some (.ref D)) := fun {S' σ' H' ρ'} a i s p e es no z => by
        obtain ⟨c, o, k1, k2, k3, _⟩ := a.own i s p e es
        rw [z] at k1
        cases k1
        cases s with
        | io q => cases es; exact nL (k3 rfl)
        | ow q => exact noOw_get no e
        | un => cases es
        | sh q => cases es
      refine ⟨fun i m H => m = xs.length - i ∧ i ≤ xs.length ∧ ∃ S ρ acc ps zs, Abs K H1 S1 (Lent σ ρ1) S (wipe σ own) H ρ ∧ noOw ρ = true ∧ H D = some (.lst acc) ∧ S D = none ∧ RepL K S ps acc ∧ lcLoop own dg dt de (xs.drop i) ρ = some (zs, ρ2) ∧ ys = ps ++ zs,
        ⟨xs.length, by simp, Nat.zero_le _, S1, lockE own ρ1, [], [], ys, (a1.enter own).step (Step.hid a1.sub hD), noOw_lockE _ _, upd_same, Same.free a1.sub hD, .nil, by rw [List.drop_zero]; exact eL, rfl⟩, ?_⟩
      rintro i m H' ⟨rfl, hle, S', ρ', acc, ps, zs, a', no', hD', sD', rp, eL', eys⟩
      obtain ⟨js, jg⟩ := rj i S' H' a'.base a'.sub
      by_cases hlt : i < xs.length
      · have ex : xs[i]? = some xs[i] := List.getElem?_eq_getElem hlt
        obtain ⟨j1, j2⟩ := jg _ ex
        rw [List.drop_eq_getElem_cons hlt] at eL'
        unfold lcLoop at eL'
        cases e1 : dg xs[i] ρ' with
        | none => simp only [e1] at eL'; cases eL'
        | some ρa =>
          simp only [e1] at eL'
          refine .inr ⟨j1, fun H => i + 1 ≤ xs.length ∧ ∃ S ρ acc ps zs, Abs K H1 S1 (Lent σ ρ1) S (wipe σ own) H ρ ∧ noOw ρ = true ∧ H D = some (.lst acc) ∧ S D = none ∧ RepL K S ps acc ∧ lcLoop own dg dt de (xs.drop (i + 1)) ρ = some (zs, ρ2) ∧ ys = ps ++ zs,
            fun H2 hN => ⟨xs.length - (i + 1), by omega, rfl, hN.1, hN.2⟩, fun x H2 y => ?_⟩
          obtain ⟨S2, st, rx⟩ := j2 x H2 y
          have aS := a'.step st
          have aT : Abs K H2 S2 (Lent σ ρ1) S2 (wipe σ own) H2 ρ' := aS.here no'
          have D2 : H2 D = some (.lst acc) := st.h _ _ hD'
          have sD2 : S2 D = none := by
            cases q : S2 D with
            | none => rfl
            | some o =>
              rcases st.new D o q with z | z | ⟨us, z⟩
              · rw [sD'] at z; cases z
              · rw [hD'] at z; cases z
              · subst z
                have z := (aS.sub _ _ q).symm.trans D2
                cases z
          have hg1 := hg H2 S2 (Lent σ ρ1) S2 (wipe σ own) H2 ρ' ρa xs[i] x (fun σ2 H2' => H2' = H2 ∧ Abs K H2 S2 (Lent σ ρ1) S2 σ2 H2 ρa) aT rx e1 fun σ2 a2 => ⟨rfl, a2⟩
          have hg2 := hgw x (wipe σ own) H2 _ hg1
          have body : ∀ σ2 H2', (wipe σ2 own = wipe (wipe σ own) own ∧ H2' = H2 ∧ Abs K H2 S2 (Lent σ ρ1) S2 σ2 H2 ρa) → (wipe σ2 own = wipe σ own ∧ tt σ2 H2' fun b H3 =>
              if b = true then te σ2 H3 fun y H4 => ∃ acc, H4 D = some (.lst acc) ∧ acc.length < sizeLine ∧ (fun H => i + 1 ≤ xs.length ∧ ∃ S ρ acc ps zs, Abs K H1 S1 (Lent σ ρ1) S (wipe σ own) H ρ ∧ noOw ρ = true ∧ H D = some (.lst acc) ∧ S D = none ∧ RepL K S ps acc ∧ lcLoop own dg dt de (xs.drop (i + 1)) ρ = some (zs, ρ2) ∧ ys = ps ++ zs) (upd H4 D (.lst (acc ++ [y])))
              else (fun H => i + 1 ≤ xs.length ∧ ∃ S ρ acc ps zs, Abs K H1 S1 (Lent σ ρ1) S (wipe σ own) H ρ ∧ noOw ρ = true ∧ H D = some (.lst acc) ∧ S D = none ∧ RepL K S ps acc ∧ lcLoop own dg dt de (xs.drop (i + 1)) ρ = some (zs, ρ2) ∧ ys = ps ++ zs) H3) := by
            rintro σ2 H2' ⟨hw, rfl, a2⟩
            rw [wipe_wipe] at hw
            refine ⟨hw, ?_⟩
            -- back to the wiped slots
            have bk : ∀ {S3 H3 : Hp} {ρ3 : Env}, Abs K H2' S2 (Lent σ ρ1) S3 σ2 H3 ρ3 → noOw ρ3 = true → Abs K H1 S1 (Lent σ ρ1) S3 (wipe σ own) H3 (wipeE own ρ3) := fun {S3 H3 ρ3} a3 no3 => by
              refine (aS.along a3 no3).forget ?_ fun j s e n => ?_
              · rw [wipeE_length, a3.len, ← wipe_len σ2 own, hw]
              · obtain ⟨h1, h2⟩ := wipeE_get e n
                refine ⟨h2, ?_⟩
                rw [← hw, getElem?_wipe h1]
            have kD : ∀ {S3 H3 : Hp} {ρ3 : Env}, Abs K H2' S2 (Lent σ ρ1) S3 σ2 H3 ρ3 → H3 D = some (.lst acc) ∧ S3 D = none := fun {S3 H3 ρ3} a3 => by
              refine ⟨a3.keep D _ D2 nL, ?_⟩
              cases q : S3 D with
              | none => rfl
              | some o =>
                rcases a3.grow D o q with z | z | ⟨us, z⟩
                · rw [sD2] at z; cases z
                · rw [D2] at z; cases z
                · subst z
                  have z := (a3.sub _ _ q).symm.trans (a3.keep D _ D2 nL)
                  cases z
            refine ht H2' S2 (Lent σ ρ1) S2 σ2 H2' ρa _ a2 ?_
            cases e2 : dt ρa with
            | bad => simp only [e2] at eL'; cases eL'
            | exc x ρb => simp only [e2] at eL'; cases eL'
            | ok b ρb =>
              intro b' S3 H3 a3 rb
              cases rb
              simp only [e2] at eL'
              cases b with
              | false =>
                simp only [Bool.false_eq_true, if_false]
                by_cases no3 : noOw ρb = true
                · simp only [if_pos no3] at eL'
                  obtain ⟨d1, d2⟩ := kD a3
                  exact ⟨hlt, S3, wipeE own ρb, acc, ps, zs, bk a3 no3, noOw_wipeE _ _ no3, d1, d2, rp.up (st.s.trans a3.base), eL', eys⟩
                · simp only [if_neg no3] at eL'; cases eL'
              | true =>
                simp only [if_true]
                have a3' : Abs K H2' S3 (Lent σ ρ1) S3 σ2 H3 ρb := a3.rebase
                refine he H2' S3 (Lent σ ρ1) S3 σ2 H3 ρb _ a3' ?_
                cases e3 : de ρb with
                | bad => simp only [e3] at eL'; cases eL'
                | exc x ρc => simp only [e3] at eL'; cases eL'
                | ok y ρc =>
                  intro z S4 H4 a4' rz
                  have a4 := a3.unbase a4'
                  simp only [e3] at eL'
                  by_cases no4 : noOw ρc = true
                  · simp only [if_pos no4] at eL'
                    cases e5 : lcLoop own dg dt de (xs.drop (i + 1)) (wipeE own ρc) with
                    | none => simp only [e5] at eL'; cases eL'
                    | some yr =>
                      obtain ⟨ys', ρ4⟩ := yr
                      simp only [e5] at eL'
                      cases eL'
                      obtain ⟨d1, d2⟩ := kD a4
                      have hl : acc.length < 1000000 := by
                        have z1 := rp.length
                        have z2 := congrArg List.length eys
                        rw [List.length_append, List.length_cons] at z2
                        omega
                      refine ⟨acc, d1, by omega, hlt, S4, wipeE own ρc, acc ++ [z], ps ++ [y], ys', (bk a4 no4).other hD d2 fun j s p e es => nOwn (bk a4 no4) j s p e es (noOw_wipeE _ _ no4), noOw_wipeE _ _ no4, upd_same, d2,
                        (rp.up (st.s.trans a4.base)).append (.cons rz .nil), e5, by rw [eys, List.append_assoc]; rfl⟩
                  · simp only [if_neg no4] at eL'; cases eL'
          exact hgm x (wipe σ own) H2 _ _ body hg2
      · have ei : i = xs.length := by omega
        subst ei
        rw [List.drop_length] at eL'
        unfold lcLoop at eL'
        cases eL'
        rw [List.append_nil] at eys
        subst eys
        refine .inl ⟨js (Nat.le_refl _), hp (.ref D) S' H' (a1.exit a') ⟨D, .lst acc, rfl, a1.none0 hD, sD', hD', rp, fun j s q ej es z => ?_⟩⟩
        have a2 := a1.exit a'
        obtain ⟨c, o, k1, k2, k3, k4, k5, k6⟩ := a2.own j s q ej es
        rcases backE_get ej (by intro w; subst w; cases es) with ⟨_, q', hq, _⟩ | ⟨h1, t, t', h2, h3, h4⟩
        · subst hq; cases es
        · have ht : ∃ p, t'.own? = some p := by
            cases t <;> cases t' <;> simp [Sl.back] at h4 <;> subst h4 <;> first | (cases es; done) | exact ⟨_, rfl⟩
          obtain ⟨p, hp'⟩ := ht
          exact nOwn a' j t' p h3 hp' no' (by rw [getElem?_wipe h1]; exact z)
    · rw [if_neg hlen] at hp
      exact hp.elim
theorem fo_lc {wi : TI} {di : DenL} {g : TG} {dg : DenG} {tt : TT} {dt : DenB} {te : TE} {de : Den} {own : List Nat} (hi : IOk K mg W wi di) (hg : GOk K g dg) (hgw : TgW own g) (hgm : GMono g) (ht : TOk K mg (fun _ _ _ _ => False) tt dt) (he : EOk K mg (fun _ _ _ _ => False) te de) :
    FOk K mg W (tLc wi g tt te own) (dLc own di dg dt de) := fun H₀ S₀ M S σ H ρ Q ab hp =>
  hi.bind (Rl' := rF K) ab hp fun xs ρ1 J S1 H1 _ a1 _ rj hp => lc_inner hg hgw hgm ht he a1 rj hp
end
end PL

set_option Elab.async false
set_option linter.all false
set_option maxRecDepth 100000
set_option maxHeartbeats 4000000
namespace PL
open PySem PySem.Spec L2
set_option autoImplicit false

/-! ### defs: what they are promised to be -/
inductive FR where
  | bad | exc (x : Exn) | ok (p : PV) (q : PV)
/-- the parameters' slots at the entry; io: the first one is an object that the def may change -/
def argSl (io : Bool) (ps : List PV) : Env := match io, ps with
  | true, p :: r => .io p :: r.map .sh
  | _, ps => ps.map .sh
def ioSet (io : Bool) (ps : List PV) (q : PV) : List PV := if io = true then ps.set 0 q else ps
def spD (K : PySem.W.Frag) (mg : Str → Option Value) (io fr : Bool) (n : Nat) (F : List PV → FR) : Sp := fun vs H Q E => vs.length = n ∧ ∃ (S : Hp) (M : Addr → Prop) (ps : List PV),
  (∀ a b, M a → M b → a = b) ∧ Abs K H S M S (vs.map some) H (argSl io ps) ∧ (io = true → ps ≠ []) ∧
  match F ps with
  | .bad => False
  | .exc x => ∀ cls d S' H', Abs K H S M S' [] H' [] → ExcRep K mg S' H' x cls d → E cls d H'
  | .ok p q => ∀ v S' H', Abs K H S M S' (vs.map some) H' (argSl io (ioSet io ps q)) → RetRep fr K H S' H' [] [] p v → Q v H'
def io0 : Env → Option PV
  | .io q :: _ => some q
  | _ => none
theorem io0_get {ρ : Env} {q : PV} (h : io0 ρ = some q) : ρ[0]? = some (.io q) := by
  unfold io0 at h
  split at h
  · cases h; rfl
  · cases h
def fin0 (io : Bool) (p : PV) (ρ : Env) : FR := if io = true then (match io0 ρ with
  | some q => .ok p q
  | none => .bad) else .ok p .non
def runD (io fr : Bool) (n len : Nat) (d : DenS) (ps : List PV) : FR :=
  if ps.length = n then
    match d (argSl io ps ++ List.replicate (len - n) .un) with
    | .rt p ρ => fin0 io p ρ
    | .nx ρ => if fr = true then .bad else fin0 io .non ρ
    | .exc x _ => .exc x
    | _ => .bad
  else .bad
theorem argSl_length (io : Bool) (ps : List PV) : (argSl io ps).length = ps.length := by
  unfold argSl
  split <;> simp
theorem argSl_get {io : Bool} {ps : List PV} {i : Nat} {s : Sl} (e : (argSl io ps)[i]? = some s) : ∃ p, ps[i]? = some p ∧ ((s = .sh p ∧ (io = true → i ≠ 0)) ∨ (s = .io p ∧ io = true ∧ i = 0)) := by
  unfold argSl at e
  split at e
  · rename_i p r
    cases i with
    | zero =>
      simp at e
      exact ⟨p, rfl, .inr ⟨e.symm, rfl, rfl⟩⟩
    | succ j =>
      simp at e
      obtain ⟨q, h1, h2⟩ := e
      exact ⟨q, by simpa using h1, .inl ⟨h2.symm, fun _ => by simp⟩⟩
  · rename_i hio
    rw [List.getElem?_map] at e
    cases h : ps[i]? with
    | none => rw [h] at e; cases e
    | some p =>
      rw [h] at e
      cases e
      refine ⟨p, rfl, .inl ⟨rfl, fun z => ?_⟩⟩
      subst z
      cases ps with
      | nil => simp at h
      | cons a r => exact (hio a r rfl rfl).elim
section
variable {K : PySem.W.Frag} {mg : Str → Option Value} {W : WX} {fr : Bool} {H₀ S₀ : Hp} {M : Addr → Prop} {S H : Hp} {σ : St} {ρ : Env}
/-- nothing is known of the slots -/
theorem Abs.bare (a : Abs K H₀ S₀ M S σ H ρ) : Abs K H₀ S₀ M S [] H [] := a.forget rfl fun i s e => by simp at e
/-- what a call without a lent object did -/
theorem Abs.toStep {S' H' : Hp} {σ' : St} {ρ' : Env} {M : Addr → Prop} (a : Abs K H S M S' σ' H' ρ') (h : ∀ b, ¬ M b) : Step S H S' H' :=
  ⟨a.base, fun b o e => a.keep b o e (h b), a.sub, a.grow⟩
def dCall (F : List PV → FR) (da : DenL) : Den := fun ρ => (da ρ).bind fun ps ρ1 => match F ps with
  | .bad => .bad
  | .exc x => .exc x ρ1
  | .ok p _ => .ok p ρ1
theorem call_pre {n : Nat} {F : List PV → FR} {fr' : Bool} {vs : List V} {ps : List PV} {Q : VK} {E : XK} (a : Abs K H₀ S₀ M S σ H ρ) (r : RepL K S ps vs) (hl : ps.length = n)
    (h : match F ps with
      | .bad => False
      | .exc x => ∀ cls d S' H', Step S H S' H' → ExcRep K mg S' H' x cls d → E cls d H'
      | .ok p q => ∀ v S' H', Step S H S' H' → RetRep fr' K H S' H' [] [] p v → Q v H') : spD K mg false fr' n F vs H Q E := by
  refine ⟨by rw [← r.length, hl], S, fun _ => False, ps, fun _ _ z => z.elim, ⟨?_, a.sub, Same.refl _, fun _ _ e => .inl e, fun _ _ e _ => e, fun b o e => ⟨o, e⟩, fun i p e => ?_, fun i s p e es => ?_, fun i j s t p q c e es => ?_⟩, (fun z => by cases z), ?_⟩
  · rw [argSl_length, List.length_map, r.length]
  · obtain ⟨p', h1, h2⟩ := argSl_get e
    rcases h2 with ⟨h2, _⟩ | ⟨_, z, _⟩
    · cases h2
      obtain ⟨v, h3, h4⟩ := r.get h1
      exact ⟨v, by rw [List.getElem?_map, h3]; rfl, h4⟩
    · cases z
  · obtain ⟨p', h1, h2⟩ := argSl_get e
    rcases h2 with ⟨h2, _⟩ | ⟨_, z, _⟩
    · subst h2; cases es
    · cases z
  · obtain ⟨p', h1, h2⟩ := argSl_get e
    rcases h2 with ⟨h2, _⟩ | ⟨_, z, _⟩
    · subst h2; cases es
    · cases z
  · cases e : F ps with
    | bad => simp only [e] at h
    | exc x => simp only [e] at h; exact fun cls d S' H' a' => h cls d S' H' (a'.toStep fun _ z => z)
    | ok p q => simp only [e] at h; exact fun v S' H' a' => h v S' H' (a'.toStep fun _ z => z)
theorem eo_call {n : Nat} {F : List PV → FR} {ta : TA} {da : DenL} (ha : AOk K mg W ta da) (hn : ∀ ps, F ps ≠ .bad → ps.length = n) : EOk K mg W (tCallS (spD K mg false false n F) (WE W) ta) (dCall F da) := fun H₀ S₀ M S σ H ρ Q ab hp =>
  ha.bind (Rl' := rV K) ab hp fun ps ρ1 vs S1 H1 _ a1 _ r hp => by
    cases e : F ps with
    | bad => simp only [e] at hp; exact hp.elim
    | exc x =>
      simp only [e] at hp
      refine call_pre a1 r (hn ps (by rw [e]; intro z; cases z)) ?_
      simp only [e]
      exact fun cls d S' H' st re => hp cls d S' H' (a1.step st) re
    | ok p q =>
      simp only [e] at hp
      refine call_pre a1 r (hn ps (by rw [e]; intro z; cases z)) ?_
      simp only [e]
      exact fun v S' H' st rv => hp v S' H' (a1.step st) rv
theorem fresh_call {S' H' : Hp} {p : PV} {v : V} (a : Abs K H₀ S₀ M S σ H ρ) (f : Fr K H S' H' [] [] p v) : Fr K H₀ S' H' σ ρ p v := by
  obtain ⟨c, o, e, h1, h2, h3, h4, _⟩ := f
  refine ⟨c, o, e, a.none0 h1, h2, h3, h4, fun j s q ej es z => ?_⟩
  obtain ⟨c', o', k1, _, _, _, k5, _⟩ := a.own j s q ej es
  rw [z] at k1
  cases k1
  rw [h1] at k5; cases k5
theorem fo_call {n : Nat} {F : List PV → FR} {ta : TA} {da : DenL} (ha : AOk K mg W ta da) (hn : ∀ ps, F ps ≠ .bad → ps.length = n) : FOk K mg W (tCallS (spD K mg false true n F) (WE W) ta) (dCall F da) := fun H₀ S₀ M S σ H ρ Q ab hp =>
  ha.bind (Rl' := rF K) ab hp fun ps ρ1 vs S1 H1 _ a1 _ r hp => by
    cases e : F ps with
    | bad => simp only [e] at hp; exact hp.elim
    | exc x =>
      simp only [e] at hp
      refine call_pre a1 r (hn ps (by rw [e]; intro z; cases z)) ?_
      simp only [e]
      exact fun cls d S' H' st re => hp cls d S' H' (a1.step st) re
    | ok p q =>
      simp only [e] at hp
      refine call_pre a1 r (hn ps (by rw [e]; intro z; cases z)) ?_
      simp only [e]
      exact fun v S' H' st rv => hp v S' H' (a1.step st) (fresh_call a1 rv)

/-! ### a call that lends the first argument, an owned object in a slot -/
def dCallIo (F : List PV → FR) (i : Nat) (da : DenL) : Den := fun ρ => match ownAt ρ i with
  | none => .bad
  | some _ => (da ρ).bind fun ps ρ1 => match ownAt ρ1 i with
    | none => .bad
    | some (s, p) => match F (p :: ps) with
      | .bad => .bad
      | .exc x => .exc x (ρ1.set i .un)
      | .ok z q => .ok z (ρ1.set i (s.with q))
/-- behind a call that was lent the object at b -/
theorem Abs.lentBack {i : Nat} {s : Sl} {p q : PV} {b : Addr} {S' H' : Hp} {o' : HO} (a : Abs K H₀ S₀ M S σ H ρ) (e : ρ[i]? = some s) (es : s.own? = some p) (hb : σ[i]? = some (some (.ref b)))
    (st : Same S S' ∧ Same S' H' ∧ (∀ c o, S' c = some o → S c = some o ∨ NT H c o) ∧ (∀ c o, H c = some o → c ≠ b → H' c = some o) ∧ ∀ c o, H c = some o → ∃ o', H' c = some o') (hS : S' b = none) (hH : H' b = some o') (w : OwnO K S' q o') :
    Abs K H₀ S₀ M S' σ H' (ρ.set i (s.with q)) := by
  obtain ⟨s1, s2, s3, s4, s5⟩ := st
  obtain ⟨b', ob, h1, h2, h3, h4, h5, h6⟩ := a.own i s p e es
  rw [hb] at h1
  cases h1
  have hi : i < ρ.length := (List.getElem?_eq_some_iff.mp e).1
  have hw : (s.with q).own? = some q := by
    cases s with
    | ow r => rfl
    | io r => rfl
    | un => cases es
    | sh r => cases es
  have nb : ∀ c o, H₀ c = some o → ¬ M c → c ≠ b := fun c o e0 m z => by
    subst z
    cases s with
    | ow r => cases es; rw [h2 rfl] at e0; cases e0
    | io r => cases es; exact m (h3 rfl)
    | un => cases es
    | sh r => cases es
  refine ⟨by rw [List.length_set]; exact a.len, s2, a.base.trans s1, fun c o z => ?_, fun c o z m => s4 c o (a.keep c o z m) (nb c o z m), fun c o z => ?_, fun j r ej => ?_, fun j t r ej et => ?_, fun j k t u r r' c ej et ek eu z z' => ?_⟩
  · rcases s3 c o z with z | z
    · exact a.grow c o z
    · exact .inr (a.nt0 z)
  · obtain ⟨o1, h⟩ := a.there c o z
    exact s5 c o1 h
  · by_cases hj : j = i
    · subst hj
      rw [List.getElem?_set_self hi] at ej
      have z := Option.some.inj ej
      rw [z] at hw; cases hw
    · rw [List.getElem?_set_ne (Ne.symm hj)] at ej
      obtain ⟨v, k1, k2⟩ := a.sh j r ej
      exact ⟨v, k1, k2.up s1⟩
  · by_cases hj : j = i
    · subst hj
      rw [List.getElem?_set_self hi] at ej
      have z := Option.some.inj ej
      subst z
      rw [hw] at et
      cases et
      refine ⟨b, o', hb, fun z => ?_, fun z => ?_, hS, hH, w⟩
      · cases s with
        | ow r => cases es; exact h2 rfl
        | io r => cases z
        | un => cases es
        | sh r => cases es
      · cases s with
        | io r => cases es; exact h3 rfl
        | ow r => cases z
        | un => cases es
        | sh r => cases es
    · rw [List.getElem?_set_ne (Ne.symm hj)] at ej
      obtain ⟨c, o2, z1, z2, z3, z4, z5, z6⟩ := a.own j t r ej et
      have hc : c ≠ b := fun z => by
        subst z
        exact hj (a.dis j i _ _ _ _ c ej et e es z1 hb)
      refine ⟨c, o2, z1, z2, z3, ?_, s4 c o2 z5 hc, z6.up s1⟩
      cases q' : S' c with
      | none => rfl
      | some o3 =>
        rcases s3 c o3 q' with z | z | ⟨us, z⟩
        · rw [z4] at z; cases z
        · rw [z5] at z; cases z
        · subst z
          have z := (s2 _ _ q').symm.trans (s4 c o2 z5 hc)
          cases z
          exact (OwnO.noTup z6).elim
  · have key : ∀ {j : Nat} {t : Sl} {r : PV}, (ρ.set i (s.with q))[j]? = some t → t.own? = some r → ∃ t' r', ρ[j]? = some t' ∧ t'.own? = some r' := fun {j t r} ej et => by
      by_cases hj : j = i
      · subst hj; exact ⟨s, p, e, es⟩
      · rw [List.getElem?_set_ne (Ne.symm hj)] at ej; exact ⟨t, r, ej, et⟩
    obtain ⟨t1, r1, e1, e2⟩ := key ej et
    obtain ⟨t2, r2, e3, e4⟩ := key ek eu
    exact a.dis j k _ _ _ _ c e1 e2 e3 e4 z z'
theorem Abs.lentGone {i : Nat} {s : Sl} {p : PV} {b : Addr} {S' H' : Hp} (a : Abs K H₀ S₀ M S σ H ρ) (e : ρ[i]? = some s) (es : s.own? = some p) (hb : σ[i]? = some (some (.ref b)))
    (st : Same S S' ∧ Same S' H' ∧ (∀ c o, S' c = some o → S c = some o ∨ NT H c o) ∧ (∀ c o, H c = some o → c ≠ b → H' c = some o) ∧ ∀ c o, H c = some o → ∃ o', H' c = some o') :
    Abs K H₀ S₀ M S' σ H' (ρ.set i .un) := by
  obtain ⟨s1, s2, s3, s4, s5⟩ := st
  obtain ⟨b', ob, h1, h2, h3, h4, h5, h6⟩ := a.own i s p e es
  rw [hb] at h1
  cases h1
  have hi : i < ρ.length := (List.getElem?_eq_some_iff.mp e).1
  have nb : ∀ c o, H₀ c = some o → ¬ M c → c ≠ b := fun c o e0 m z => by
    subst z
    cases s with
    | ow r => cases es; rw [h2 rfl] at e0; cases e0
    | io r => cases es; exact m (h3 rfl)
    | un => cases es
    | sh r => cases es
  have ne : ∀ {j : Nat} {s : Sl}, (ρ.set i .un)[j]? = some s → s ≠ .un → j ≠ i ∧ ρ[j]? = some s := fun {j s} ej hs => by
    by_cases hj : j = i
    · subst hj
      rw [List.getElem?_set_self hi] at ej
      cases ej
      exact absurd rfl hs
    · rw [List.getElem?_set_ne (Ne.symm hj)] at ej
      exact ⟨hj, ej⟩
  have nu : ∀ {s : Sl} {q : PV}, s.own? = some q → s ≠ .un := fun {s q} h z => by subst z; cases h
  refine ⟨by rw [List.length_set]; exact a.len, s2, a.base.trans s1, fun c o z => ?_, fun c o z m => s4 c o (a.keep c o z m) (nb c o z m), fun c o z => ?_, fun j r ej => ?_, fun j t r ej et => ?_, fun j k t u r r' c ej et ek eu z z' => ?_⟩
  · rcases s3 c o z with z | z
    · exact a.grow c o z
    · exact .inr (a.nt0 z)
  · obtain ⟨o1, h⟩ := a.there c o z
    exact s5 c o1 h
  · obtain ⟨v, k1, k2⟩ := a.sh j r (ne ej (by intro z; cases z)).2
    exact ⟨v, k1, k2.up s1⟩
  · obtain ⟨hj, ej⟩ := ne ej (nu et)
    obtain ⟨c, o2, z1, z2, z3, z4, z5, z6⟩ := a.own j t r ej et
    have hc : c ≠ b := fun z => by
      subst z
      exact hj (a.dis j i _ _ _ _ c ej et e es z1 hb)
    refine ⟨c, o2, z1, z2, z3, ?_, s4 c o2 z5 hc, z6.up s1⟩
    cases q' : S' c with
    | none => rfl
    | some o3 =>
      rcases s3 c o3 q' with z | z | ⟨us, z⟩
      · rw [z4] at z; cases z
      · rw [z5] at z; cases z
      · subst z
        have z := (s2 _ _ q').symm.trans (s4 c o2 z5 hc)
        cases z
        exact (OwnO.noTup z6).elim
  · exact a.dis j k t u r r' c (ne ej (nu et)).2 et (ne ek (nu eu)).2 eu z z'
theorem callIo_pre {n : Nat} {F : List PV → FR} {fr' : Bool} {i : Nat} {s : Sl} {p : PV} {b : Addr} {vs : List V} {ps : List PV} {Q : VK} {E : XK} (a : Abs K H₀ S₀ M S σ H ρ) (e : ρ[i]? = some s) (es : s.own? = some p) (hb : σ[i]? = some (some (.ref b))) (r : RepL K S ps vs) (hl : ps.length + 1 = n)
    (h : match F (p :: ps) with
      | .bad => False
      | .exc x => ∀ cls d S' H', Abs K H₀ S₀ M S' σ H' (ρ.set i .un) → ExcRep K mg S' H' x cls d → E cls d H'
      | .ok z q => ∀ v S' H', Abs K H₀ S₀ M S' σ H' (ρ.set i (s.with q)) → RetRep fr' K H₀ S' H' σ (ρ.set i (s.with q)) z v → Q v H') : spD K mg true fr' n F (.ref b :: vs) H Q E := by
  obtain ⟨b', ob, h1, h2, h3, h4, h5, h6⟩ := a.own i s p e es
  rw [hb] at h1
  cases h1
  refine ⟨by rw [List.length_cons, ← r.length]; exact hl, S, fun c => c = b, p :: ps, fun _ _ z z' => z.trans z'.symm, ⟨?_, a.sub, Same.refl _, fun _ _ e => .inl e, fun _ _ e _ => e, fun b o e => ⟨o, e⟩, fun j q ej => ?_, fun j t q ej et => ?_, fun j k t u q q' c ej et ek eu _ _ => ?_⟩, (fun _ z => by cases z), ?_⟩
  · rw [argSl_length, List.length_map, List.length_cons, List.length_cons, r.length]
  · obtain ⟨p', k1, k2⟩ := argSl_get ej
    rcases k2 with ⟨k2, k3⟩ | ⟨k2, _, _⟩
    · cases k2
      cases j with
      | zero => exact absurd rfl (k3 rfl)
      | succ j =>
        obtain ⟨v, h3, h4⟩ := r.get (i := j) (by simpa using k1)
        exact ⟨v, by rw [List.getElem?_map, List.getElem?_cons_succ, h3]; rfl, h4⟩
    · cases k2
  · obtain ⟨p', k1, k2⟩ := argSl_get ej
    rcases k2 with ⟨k2, _⟩ | ⟨k2, _, k3⟩
    · subst k2; cases et
    · subst k2; subst k3
      cases et
      cases k1
      exact ⟨b, ob, rfl, (fun z => by cases z), fun _ => rfl, h4, h5, h6⟩
  · obtain ⟨_, _, k2⟩ := argSl_get ej
    obtain ⟨_, _, k4⟩ := argSl_get ek
    rcases k2 with ⟨k2, _⟩ | ⟨_, _, k3⟩
    · subst k2; cases et
    · rcases k4 with ⟨k4, _⟩ | ⟨_, _, k5⟩
      · subst k4; cases eu
      · rw [k3, k5]
  · have facts : ∀ {S' H' : Hp} {σ' : St} {ρ' : Env}, Abs K H S (fun c => c = b) S' σ' H' ρ' → Same S S' ∧ Same S' H' ∧ (∀ c o, S' c = some o → S c = some o ∨ NT H c o) ∧ (∀ c o, H c = some o → c ≠ b → H' c = some o) ∧ ∀ c o, H c = some o → ∃ o', H' c = some o' :=
      fun {S' H' σ' ρ'} a' => ⟨a'.base, a'.sub, a'.grow, fun c o z n => a'.keep c o z n, a'.there⟩
    cases eF : F (p :: ps) with
    | bad => simp only [eF] at h
    | exc x =>
      simp only [eF] at h
      exact fun cls d S' H' a' => h cls d S' H' (a.lentGone e es hb (facts a'))
    | ok z q =>
      simp only [eF] at h
      intro v S' H' a' rv
      obtain ⟨c, o', k1, k2, k3, k4, k5, k6⟩ := a'.own 0 (.io q) q (by simp [argSl, ioSet]) rfl
      have hc : c = b := k3 rfl
      subst hc
      have aN := a.lentBack e es hb (facts a') k4 k5 k6
      refine h v S' H' aN ?_
      unfold RetRep at rv ⊢
      cases fr' with
      | false => simpa using rv
      | true =>
        simp only [if_true] at rv ⊢
        obtain ⟨c', o2, e2, f1, f2, f3, f4, _⟩ := rv
        refine ⟨c', o2, e2, a.none0 f1, f2, f3, f4, fun j t r ej et z => ?_⟩
        have key : ∃ t' r', ρ[j]? = some t' ∧ t'.own? = some r' := by
          by_cases hj : j = i
          · subst hj; exact ⟨s, p, e, es⟩
          · rw [List.getElem?_set_ne (Ne.symm hj)] at ej; exact ⟨t, r, ej, et⟩
        obtain ⟨t', r', e3, e4⟩ := key
        obtain ⟨c3, o3, y1, _, _, _, y5, _⟩ := a.own j t' r' e3 e4
        rw [z] at y1
        cases y1
        rw [f1] at y5; cases y5
theorem XOk.callIo {n : Nat} {F : List PV → FR} {fr' : Bool} {i : Nat} {ta : TA} {da : DenL} (ha : AOk K mg W ta da) (hn : ∀ ps, F ps ≠ .bad → ps.length = n) (Rl : RelT PV V) (hR : ∀ H₀ S H σ ρ p v, RetRep fr' K H₀ S H σ ρ p v → Rl H₀ S H σ ρ p v) :
    XOk K mg W Rl (tCallS (spD K mg true fr' n F) (WE W) (tCons (tVar i) ta)) (dCallIo F i da) := fun H₀ S₀ M S σ H ρ Q ab hp => by
  unfold dCallIo at hp
  cases e0 : ownAt ρ i with
  | none => rw [e0] at hp; exact hp.elim
  | some sp =>
    obtain ⟨s0, p0⟩ := sp
    rw [e0] at hp
    obtain ⟨e1, e2⟩ := ownAt_some e0
    obtain ⟨b, o, h1, _⟩ := ab.own i _ _ e1 e2
    refine ⟨.ref b, h1, ?_⟩
    refine ha.bind (Rl' := Rl) ab hp fun ps ρ1 vs S1 H1 _ a1 _ r hp => ?_
    cases e3 : ownAt ρ1 i with
    | none => rw [e3] at hp; exact hp.elim
    | some sp =>
      obtain ⟨s, p⟩ := sp
      rw [e3] at hp
      obtain ⟨e4, e5⟩ := ownAt_some e3
      cases eF : F (p :: ps) with
      | bad => simp only [eF] at hp; exact hp.elim
      | exc x =>
        simp only [eF] at hp
        refine callIo_pre a1 e4 e5 h1 r (by simpa using hn (p :: ps) (by rw [eF]; intro z; cases z)) ?_
        simp only [eF]
        exact fun cls d S' H' a2 re => hp cls d S' H' a2 re
      | ok z q =>
        simp only [eF] at hp
        refine callIo_pre a1 e4 e5 h1 r (by simpa using hn (p :: ps) (by rw [eF]; intro z; cases z)) ?_
        simp only [eF]
        exact fun v S' H' a2 rv => hp v S' H' a2 (hR _ _ _ _ _ _ _ rv)
theorem eo_callIo {n : Nat} {F : List PV → FR} {i : Nat} {ta : TA} {da : DenL} (ha : AOk K mg W ta da) (hn : ∀ ps, F ps ≠ .bad → ps.length = n) : EOk K mg W (tCallS (spD K mg true false n F) (WE W) (tCons (tVar i) ta)) (dCallIo F i da) :=
  XOk.callIo ha hn (rV K) fun _ _ _ _ _ _ _ h => h
theorem fo_callIo {n : Nat} {F : List PV → FR} {i : Nat} {ta : TA} {da : DenL} (ha : AOk K mg W ta da) (hn : ∀ ps, F ps ≠ .bad → ps.length = n) : FOk K mg W (tCallS (spD K mg true true n F) (WE W) (tCons (tVar i) ta)) (dCallIo F i da) :=
  XOk.callIo ha hn (rF K) fun _ _ _ _ _ _ _ h => h

/-! ### a def by its body -/
theorem body_ok {io fr : Bool} {n len : Nat} {t : TS} {d : DenS} {vs : List V} {H : Hp} {Q : VK} {E : XK} (hb : SOk K mg (fun cls dd _ H => E cls dd H) fr t d) (hl : n ≤ len) (h : spD K mg io fr n (runD io fr n len d) vs H Q E) :
    t { nx := fun _ H' => Q .non H', rt := Q } (vs.map some ++ List.replicate (len - vs.length) none) H := by
  obtain ⟨hv, S, M, ps, hM, ab, hne, h⟩ := h
  have hps : ps.length = n := by
    have z := ab.len
    rw [argSl_length, List.length_map] at z
    omega
  have start : Abs K H S M S (vs.map some ++ List.replicate (len - vs.length) none) H (argSl io ps ++ List.replicate (len - n) .un) := by
    refine ab.forget ?_ fun i s e hs => ?_
    · rw [List.length_append, List.length_append, argSl_length, List.length_replicate, List.length_replicate, List.length_map]
      omega
    · have hi : i < (argSl io ps).length := by
        rcases Nat.lt_or_ge i (argSl io ps).length with h | h
        · exact h
        · rw [List.getElem?_append_right h, List.getElem?_replicate] at e
          split at e
          · cases e; exact absurd rfl hs
          · cases e
      rw [List.getElem?_append_left hi] at e
      refine ⟨e, ?_⟩
      rw [List.getElem?_append_left (by rw [← ab.len]; exact hi)]
  -- back at the parameters
  have back : ∀ {S' : Hp} {σ' : St} {H' : Hp} {ρ' : Env} {q : PV}, Abs K H S M S' σ' H' ρ' → (io = true → ρ'[0]? = some (.io q)) → Abs K H S M S' (vs.map some) H' (argSl io (ioSet io ps q)) := fun {S' σ' H' ρ' q} a hq => by
    have il : (ioSet io ps q).length = ps.length := by unfold ioSet; split <;> simp
    refine ⟨by rw [argSl_length, il, ← argSl_length io ps]; exact ab.len, a.sub, a.base, a.grow, a.keep, a.there, fun i p e => ?_, fun i s p e es => ?_, fun i j s t p p' c e es e' es' z z' => ?_⟩
    · obtain ⟨p', k1, k2⟩ := argSl_get e
      rcases k2 with ⟨k2, k3⟩ | ⟨k2, _, _⟩
      · cases k2
        have e0 : ps[i]? = some p := by
          unfold ioSet at k1
          by_cases hio : io = true
          · rw [if_pos hio, List.getElem?_set_ne (Ne.symm (k3 hio))] at k1
            exact k1
          · rw [if_neg hio] at k1
            exact k1
        have e1 : (argSl io ps)[i]? = some (.sh p) := by
          unfold argSl
          split
          · rename_i r
            cases i with
            | zero => exact absurd rfl (k3 rfl)
            | succ i => simp at e0 ⊢; exact e0
          · simp [e0]
        obtain ⟨v, z1, z2⟩ := ab.sh i p e1
        exact ⟨v, z1, z2.up a.base⟩
      · cases k2
    · obtain ⟨p', k1, k2⟩ := argSl_get e
      rcases k2 with ⟨k2, k3⟩ | ⟨k2, hio, hi⟩
      · subst k2; cases es
      · subst k2; subst hi
        cases es
        unfold ioSet at k1
        rw [if_pos hio] at k1
        have hpq : p = q := by
          cases ps with
          | nil => simp at k1
          | cons a r => simp at k1; exact k1.symm
        subst hpq
        obtain ⟨c, o, z1, z2, z3, z4, z5, z6⟩ := a.own 0 _ _ (hq hio) rfl
        cases ps with
        | nil => exact absurd rfl (hne hio)
        | cons a0 r =>
          subst hio
          obtain ⟨c', o', y1, y2, y3, y4, y5, y6⟩ := ab.own 0 (.io a0) a0 (by simp [argSl]) rfl
          have hcc : c = c' := hM c c' (z3 rfl) (y3 rfl)
          subst hcc
          exact ⟨c, o, y1, (fun z => by cases z), fun _ => z3 rfl, z4, z5, z6⟩
    · obtain ⟨_, _, k2⟩ := argSl_get e
      obtain ⟨_, _, k4⟩ := argSl_get e'
      rcases k2 with ⟨k2, _⟩ | ⟨_, _, k3⟩
      · subst k2; cases es
      · rcases k4 with ⟨k4, _⟩ | ⟨_, _, k5⟩
        · subst k4; cases es'
        · rw [k3, k5]
  have rb : ∀ {S' : Hp} {σ' : St} {H' : Hp} {ρ' : Env} {p : PV} {v : V}, RetRep fr K H S' H' σ' ρ' p v → RetRep fr K H S' H' [] [] p v := fun {S' σ' H' ρ' p v} r => by
    unfold RetRep at r ⊢
    cases fr with
    | false => simpa using r
    | true =>
      simp only [if_true] at r ⊢
      obtain ⟨c, o, e, f1, f2, f3, f4, _⟩ := r
      exact ⟨c, o, e, f1, f2, f3, f4, fun j s q ej => by simp at ej⟩
  refine hb H S M S _ H _ _ start ?_
  unfold runD at h
  rw [if_pos hps] at h
  cases eR : d (argSl io ps ++ List.replicate (len - n) .un) with
  | bad => simp only [eR] at h
  | exc x ρ' => simp only [eR] at h; exact fun cls dd S' σ' H' a r => h cls dd S' H' a.bare r
  | bk ρ' => simp only [eR] at h
  | ct ρ' => simp only [eR] at h
  | nx ρ' =>
    simp only [eR] at h
    intro S' σ' H' a
    by_cases hf : fr = true
    · rw [if_pos hf] at h; exact h.elim
    · rw [if_neg hf] at h
      have rN : RetRep fr K H S' H' [] [] .non .non := by
        unfold RetRep
        rw [if_neg hf]
        exact .non
      unfold fin0 at h
      by_cases hio : io = true
      · rw [if_pos hio] at h
        cases e0 : io0 ρ' with
        | none => rw [e0] at h; exact h.elim
        | some q => rw [e0] at h; exact h .non S' H' (back a fun _ => io0_get e0) rN
      · rw [if_neg hio] at h
        exact h .non S' H' (back a fun z => absurd z hio) rN
  | rt p ρ' =>
    simp only [eR] at h
    intro v S' σ' H' a r
    unfold fin0 at h
    by_cases hio : io = true
    · rw [if_pos hio] at h
      cases e0 : io0 ρ' with
      | none => rw [e0] at h; exact h.elim
      | some q => rw [e0] at h; exact h v S' H' (back a fun _ => io0_get e0) (rb r)
    · rw [if_neg hio] at h
      exact h v S' H' (back a fun z => absurd z hio) (rb r)
end
/-- THE RULE for a def -/
theorem fn_ok {P : Program} {w : World} {K : PySem.W.Frag} {mg : Str → Option Value} {base : Heap} {x qual : Str} {st : Stmt} {f : Addr} {fd : FuncData} {N ps : List Str} {k : Nat} {io fr : Bool} {d : DenS} (F : Fun K x qual st f fd) (S : FnScope N ps (defScope st))
    (hl : ps.length ≤ N.length)
    (hbody : ∀ (cdv : Value) (A : Around) (outer : List PySem.Env) (s : Shared) (H : Hp) (E : XK), Room k (A.deeper (PyProof.Rows.envOfC qual (defScope st) s.heap.objs.size f cdv)) →
      ∃ t, PSs (cxOf (L2.CX P w) P w K mg base N qual (defScope st) f cdv A outer s H E) (defBody st) t ∧ SOk K mg (fun cls dd _ H => E cls dd H) fr t d) :
    FnOk P w K mg base (L2.CX P w) (k + 1) f fd ps (spD K mg io fr ps.length (runD io fr ps.length N.length d)) :=
  F.okX S (fun vs H Q E h => h.1) fun cdv A outer s H vs Q E hr h => by
    obtain ⟨t, h1, h2⟩ := hbody cdv A outer s H E hr
    refine ⟨t, h1, ?_⟩
    have z := body_ok h2 hl h
    exact z
/-- a promise by a function that agrees -/
theorem fn_eq {P : Program} {w : World} {K : PySem.W.Frag} {mg : Str → Option Value} {base : Heap} {CX : CXT} {k n : Nat} {f : Addr} {fd : FuncData} {ps : List Str} {io fr : Bool} {F G : List PV → FR} (h : FnOk P w K mg base CX k f fd ps (spD K mg io fr n F)) (e : ∀ ps, G ps ≠ .bad → F ps = G ps) :
    FnOk P w K mg base CX k f fd ps (spD K mg io fr n G) := h.imp fun vs H Q E q => by
  obtain ⟨h1, S, M, qs, h2, h3, h4, h5⟩ := q
  refine ⟨h1, S, M, qs, h2, h3, h4, ?_⟩
  cases eG : G qs with
  | bad => rw [eG] at h5; exact h5.elim
  | exc x => rw [e qs (by rw [eG]; intro z; cases z), eG]; rw [eG] at h5; exact h5
  | ok p q => rw [e qs (by rw [eG]; intro z; cases z), eG]; rw [eG] at h5; exact h5
end PL

set_option Elab.async false
set_option linter.all false
set_option maxRecDepth 100000
set_option maxHeartbeats 4000000
namespace PL
open PySem PySem.Spec L2
set_option autoImplicit false

/-! ### plain values as data -/
mutual
def PV.toD : PV → PyData
  | .non => .none
  | .bl b => .bool b
  | .int i => .int i
  | .str x => .str x
  | .lst ps => .list (toDs ps)
  | .tup ps => .tuple (toDs ps)
  | .ktup ps => .tuple (toDs ps)
  | .dic _ _ _ => .dict []
  | .fn _ => .dict []
  | .klst _ => .dict []
def toDs : List PV → List PyData
  | [] => []
  | p :: ps => p.toD :: toDs ps
end
section
variable {K : PySem.W.Frag} {S H : Hp}
mutual
theorem Rep.dp (e : Same S H) : ∀ (p : PV) (v : V), Rep K S p v → p.toD.canLay0 = true → Dp K H v p.toD
  | .non, _, h, _ => by cases h; exact .non
  | .bl b, _, h, _ => by cases h; exact .bl b
  | .int i, _, h, _ => by cases h; exact .int i
  | .str x, _, h, _ => by cases h; exact .str x
  | .fn a, _, h, c => by simp [PV.toD, PyData.canLay0] at c
  | .lst ps, _, h, c => by
    cases h with
    | lst h1 h2 => exact .lst (.inl (.inl (e _ _ h1))) (RepL.dp e ps _ h2 (by simpa [PV.toD, PyData.canLay0] using c))
  | .tup ps, _, h, c => by
    cases h with
    | tup h1 h2 => exact .tup (.inl (.inl (e _ _ h1))) (RepL.dp e ps _ h2 (by simpa [PV.toD, PyData.canLay0] using c))
  | .ktup ps, _, h, c => by
    cases h with
    | ktup h1 h2 => exact .tup (Same.tupK e h1) (RepL.dp e ps _ h2 (by simpa [PV.toD, PyData.canLay0] using c))
  | .dic t ks ps, _, h, c => by simp [PV.toD, PyData.canLay0] at c
  | .klst ps, _, h, c => by simp [PV.toD, PyData.canLay0] at c
theorem RepL.dp (e : Same S H) : ∀ (ps : List PV) (vs : List V), RepL K S ps vs → PyData.canLayAll0 (toDs ps) = true → DpAll K H vs (toDs ps)
  | [], _, h, _ => by cases h; exact .nil
  | p :: ps, _, h, c => by
    cases h with
    | cons h1 h2 =>
      have c' : p.toD.canLay0 = true ∧ PyData.canLayAll0 (toDs ps) = true := by simpa [toDs, PyData.canLayAll0] using c
      exact .cons (Rep.dp e p _ h1 c'.1) (RepL.dp e ps _ h2 c'.2)
end
end

/-! ### operations on plain values -/
def gAdd : PV → PV → Option PV
  | .int i, .int j => some (.int (i + j))
  | .str x, .str y => if x.length + y.length ≤ sizeLine then some (.str (x ++ y)) else none
  | .lst xs, .lst ys => if xs.length + ys.length ≤ sizeLine then some (.lst (xs ++ ys)) else none
  | .tup xs, .tup ys => if xs.length + ys.length ≤ sizeLine then some (.tup (xs ++ ys)) else none
  | _, _ => none
def gCat : PV → PV → Option PV := fun p q => match p, q with
    | .lst xs, .lst ys => if xs.length + ys.length ≤ sizeLine then some (.lst (xs ++ ys)) else none
    | _, _ => none
def gRep : PV → PV → Option PV := fun p q => match p, q with
    | .lst xs, .int k => if decide (-(2 ^ 63) ≤ k) && decide (k < 2 ^ 63) && decide (xs.length * k.toNat ≤ sizeLine) then some (.lst (List.replicate k.toNat xs).flatten) else none
    | _, _ => none
def gSub : PV → PV → Option PV
  | .int i, .int j => some (.int (i - j))
  | _, _ => none
def smallI (i : Int) : Bool := decide (-(2 ^ 64) < i) && decide (i < 2 ^ 64)
def gMul : PV → PV → Option PV
  | .int i, .int j => if smallI i || smallI j then some (.int (i * j)) else none
  | .lst xs, .int k => if decide (-(2 ^ 63) ≤ k) && decide (k < 2 ^ 63) && decide (xs.length * k.toNat ≤ sizeLine) then some (.lst (List.replicate k.toNat xs).flatten) else none
  | _, _ => none
def gFdiv : PV → PV → Option PV
  | .int i, .int j => if decide (0 < j) && decide (j < 1073741824) then some (.int (i / j)) else none
  | _, _ => none
def gMod : PV → PV → Option PV
  | .int i, .int j => if decide (0 < j) then some (.int (i % j)) else none
  | _, _ => none
def gPow : PV → PV → Option PV
  | .int i, .int j => if decide (0 ≤ j) && decide (j ≤ 1000000) && decide (i.natAbs < 2 ^ 64) then some (.int (i ^ j.toNat)) else none
  | _, _ => none
def gNeg : PV → Option PV
  | .int i => some (.int (-i))
  | _ => none
def gCmpI (f : Int → Int → Bool) : PV → PV → Option PV
  | .int i, .int j => some (.bl (f i j))
  | _, _ => none
abbrev gLt := gCmpI fun i j => decide (i < j)
abbrev gLe := gCmpI fun i j => decide (i ≤ j)
abbrev gGt := gCmpI fun i j => decide (j < i)
abbrev gGe := gCmpI fun i j => decide (j ≤ i)
def pvEq (p q : PV) : Bool := PyData.eqv p.toD q.toD
def gEq (p q : PV) : Option PV := if SeqAt.shaped p.toD && SeqAt.shaped q.toD then some (.bl (pvEq p q)) else none
def gNe (p q : PV) : Option PV := if SeqAt.shaped p.toD && SeqAt.shaped q.toD then some (.bl (!pvEq p q)) else none
def gIsN (neg : Bool) : PV → PV → Option PV
  | .non, .non => some (.bl (!neg))
  | .fn _, .non => none
  | _, .non => some (.bl neg)
  | _, _ => none
/-- one sign of a text -/
def sgn1 (x : Str) : Option Nat := match x.cps.toList with
  | [c] => some c
  | _ => none
def gIn (neg : Bool) : PV → PV → Option PV
  | .str x, .str z => (sgn1 x).map fun c => .bl (if neg then !decide (c ∈ z.cps.toList) else decide (c ∈ z.cps.toList))
  | p, .lst ps => if SeqAt.shaped p.toD && SeqAt.shaped (PV.lst ps).toD then some (.bl (if neg then !ps.any (fun y => pvEq y p) else ps.any fun y => pvEq y p)) else none
  | _, _ => none
def gIx : PV → PV → Option PV
  | .lst ps, .int i => atI ps i
  | .tup ps, .int i => atI ps i
  | .ktup ps, .int i => atI ps i
  | .klst ps, .int i => atI ps i
  | .str z, .int i => if z.length ≤ sizeLine then (atI z.cps.toList i).map fun c => .str ⟨#[c]⟩ else none
  | _, _ => none
def cutP {α : Type} (xs : List α) (lo hi : Option Int) : List α := (xs.drop (HT.sIx xs.length 0 lo)).take (HT.sIx xs.length xs.length hi - HT.sIx xs.length 0 lo)
def gLen : PV → Option PV
  | .lst ps => some (.int ps.length)
  | .tup ps => some (.int ps.length)
  | .ktup ps => some (.int ps.length)
  | .klst ps => some (.int ps.length)
  | .str z => if z.length ≤ sizeLine then some (.int z.length) else none
  | _ => none
def ints? : List PV → Option (List Int)
  | [] => some []
  | .int i :: r => (ints? r).map (i :: ·)
  | _ :: _ => none
def strs? : List PV → Option (List Str)
  | [] => some []
  | .str i :: r => (strs? r).map (i :: ·)
  | _ :: _ => none
def gSum : PV → Option PV
  | .lst ps => (ints? ps).map fun ns => .int ns.sum
  | _ => none
section
variable {K : PySem.W.Frag}
theorem RepL.ints {S : Hp} : ∀ {ps : List PV} {vs : List V} {ns : List Int}, RepL K S ps vs → ints? ps = some ns → vs = ns.map V.int
  | [], _, _, h, e => by cases h; cases e; rfl
  | p :: ps, _, ns, h, e => by
    cases h with
    | cons h1 h2 =>
      cases p with
      | int i =>
        unfold ints? at e
        cases e1 : ints? ps with
        | none => rw [e1] at e; cases e
        | some ms =>
          rw [e1] at e
          cases e
          cases h1
          rw [RepL.ints h2 e1]
          rfl
      | _ => cases e
theorem RepL.strs {S : Hp} : ∀ {ps : List PV} {vs : List V} {ns : List Str}, RepL K S ps vs → strs? ps = some ns → vs = ns.map V.str
  | [], _, _, h, e => by cases h; cases e; rfl
  | p :: ps, _, ns, h, e => by
    cases h with
    | cons h1 h2 =>
      cases p with
      | str i =>
        unfold strs? at e
        cases e1 : strs? ps with
        | none => rw [e1] at e; cases e
        | some ms =>
          rw [e1] at e
          cases e
          cases h1
          rw [RepL.strs h2 e1]
          rfl
      | _ => cases e
theorem RepL.atI {S : Hp} {ps : List PV} {vs : List V} {i : Int} {p : PV} (h : RepL K S ps vs) (e : L2.atI ps i = some p) : ∃ v, L2.atI vs i = some v ∧ Rep K S p v := by
  unfold L2.atI at e ⊢
  rw [← h.length]
  cases e1 : ixN ps.length i with
  | none => rw [e1] at e; cases e
  | some j =>
    rw [e1] at e
    exact h.get e
theorem RepL.cut {S : Hp} {ps : List PV} {vs : List V} {lo hi : Option Int} (h : RepL K S ps vs) : RepL K S (cutP ps lo hi) (cutV vs lo hi) := by
  unfold cutP cutV
  rw [h.length]
  exact (h.drop _).take _
theorem RepL.flat {S : Hp} {ps : List PV} {vs : List V} (h : RepL K S ps vs) : ∀ n, RepL K S (List.replicate n ps).flatten (List.replicate n vs).flatten
  | 0 => .nil
  | n + 1 => by
    rw [List.replicate_succ, List.replicate_succ, List.flatten_cons, List.flatten_cons]
    exact h.append (RepL.flat h n)
/-! ### .. and the rules by values -/
def rAddU (K : PySem.W.Frag) : R2 := fun x y H Q => (∃ i j, x = .int i ∧ y = .int j ∧ Q (.int (i + j)) H) ∨ (∃ i j, x = .str i ∧ y = .str j ∧ i.length + j.length ≤ sizeLine ∧ Q (.str (i ++ j)) H) ∨ rCat x y H Q ∨ rCatA K x y H Q
theorem op_addU {X : Cx} : OpR X (binaryOp .Add) (rAddU X.K) := OpR.or op_add (OpR.or op_add_str (OpR.or op_cat op_catA))
theorem v2_cat : V2F K rCat gCat := by
  intro S H x y p q z Q s rx ry e k
  unfold gCat at e
  split at e
  · rename_i xs ys
    split at e
    · rename_i hz
      cases e
      cases rx with
      | lst h1 h2 =>
        cases ry with
        | lst h3 h4 =>
          rw [h2.length, h4.length] at hz
          exact ⟨_, _, _, _, rfl, rfl, s _ _ h1, s _ _ h3, hz, fun a n => k a _ n (h2.append h4)⟩
    · cases e
  · cases e
theorem v2_add : V2 K (rAddU K) gAdd := by
  intro S H x y p q z Q s rx ry e k
  unfold gAdd at e
  split at e
  · cases rx; cases ry; cases e
    exact .inl ⟨_, _, rfl, rfl, k _ S H (Step.refl s) (.int _)⟩
  · split at e
    · rename_i hz
      cases rx; cases ry; cases e
      exact .inr (.inl ⟨_, _, rfl, rfl, hz, k _ S H (Step.refl s) (.str _)⟩)
    · cases e
  · exact .inr (.inr (.inl (v2_cat.v2 S H x y _ _ z Q s rx ry e k)))
  · split at e
    · rename_i xs ys hz
      cases e
      refine .inr (.inr (.inr ?_))
      cases rx with
      | tup h1 h2 =>
        cases ry with
        | tup h3 h4 =>
          rename_i a vs b us
          have hz' := hz
          rw [h2.length, h4.length] at hz'
          refine ⟨_, _, _, _, rfl, rfl, .inl (.inl (s _ _ h1)), .inl (.inl (s _ _ h3)), hz', fun e1 => ?_, fun _ e2 => ?_, fun _ _ c n => ?_⟩
          · subst e1
            cases h2
            exact k _ S H (Step.refl s) (.tup h3 h4)
          · subst e2
            cases h4
            rw [List.append_nil] at k
            exact k _ S H (Step.refl s) (.tup h1 h2)
          · refine k _ (upd S c (.tup (vs ++ us))) _ (Step.new1 s n) ?_
            exact .tup upd_same ((h2.append h4).up (same_upd (Same.free s n)))
    · cases e
  · cases e
theorem v2_sub : V2 K (rI0 fun i j => .int (i - j)) gSub := by
  intro S H x y p q z Q s rx ry e k
  unfold gSub at e
  split at e
  · cases rx; cases ry; cases e
    exact ⟨_, _, rfl, rfl, k _ S H (Step.refl s) (.int _)⟩
  · cases e
def rMulU : R2 := fun x y H Q => rI CMul (fun i j => .int (i * j)) x y H Q ∨ rRep x y H Q
theorem op_mulU {X : Cx} : OpR X (binaryOp .Mult) rMulU := OpR.or op_mul op_rep
theorem smallI_iff {i : Int} : smallI i = true ↔ -(2 ^ 64) < i ∧ i < 2 ^ 64 := by unfold smallI; simp
theorem v2_rep : V2F K rRep gRep := by
  intro S H x y p q z Q s rx ry e k
  unfold gRep at e
  split at e
  · rename_i xs n
    split at e
    · rename_i hz
      cases e
      simp only [Bool.and_eq_true, decide_eq_true_eq] at hz
      cases rx with
      | lst h1 h2 =>
        cases ry
        rw [h2.length] at hz
        exact ⟨_, _, _, rfl, rfl, s _ _ h1, hz.1.1, hz.1.2, hz.2, fun a n' => k a _ n' (h2.flat _)⟩
    · cases e
  · cases e
theorem v2_mul : V2 K rMulU gMul := by
  intro S H x y p q z Q s rx ry e k
  unfold gMul at e
  split at e
  · split at e
    · rename_i hz
      cases rx; cases ry; cases e
      refine .inl ⟨_, _, rfl, rfl, ?_, k _ S H (Step.refl s) (.int _)⟩
      rcases (Bool.or_eq_true _ _).mp hz with h | h
      · exact .inl (smallI_iff.mp h)
      · exact .inr (smallI_iff.mp h)
    · cases e
  · rename_i xs n
    exact .inr (v2_rep.v2 S H x y (.lst xs) (.int n) z Q s rx ry e k)
  · cases e
theorem v2_fdiv : V2 K (rI CDiv fun i j => .int (i / j)) gFdiv := by
  intro S H x y p q z Q s rx ry e k
  unfold gFdiv at e
  split at e
  · split at e
    · rename_i hz
      simp only [Bool.and_eq_true, decide_eq_true_eq] at hz
      cases rx; cases ry; cases e
      exact ⟨_, _, rfl, rfl, hz, k _ S H (Step.refl s) (.int _)⟩
    · cases e
  · cases e
theorem v2_mod : V2 K (rI (fun _ j => 0 < j) fun i j => .int (i % j)) gMod := by
  intro S H x y p q z Q s rx ry e k
  unfold gMod at e
  split at e
  · split at e
    · rename_i hz
      cases rx; cases ry; cases e
      exact ⟨_, _, rfl, rfl, of_decide_eq_true hz, k _ S H (Step.refl s) (.int _)⟩
    · cases e
  · cases e
theorem v2_pow : V2 K (rI CPow fun i j => .int (i ^ j.toNat)) gPow := by
  intro S H x y p q z Q s rx ry e k
  unfold gPow at e
  split at e
  · split at e
    · rename_i hz
      simp only [Bool.and_eq_true, decide_eq_true_eq] at hz
      cases rx; cases ry; cases e
      exact ⟨_, _, rfl, rfl, ⟨hz.1.1, hz.1.2, hz.2⟩, k _ S H (Step.refl s) (.int _)⟩
    · cases e
  · cases e
theorem v1_neg : V1 K (rU fun i => .int (-i)) gNeg := by
  intro S H x p z Q s rx e k
  unfold gNeg at e
  split at e
  · cases rx; cases e
    exact ⟨_, rfl, k _ S H (Step.refl s) (.int _)⟩
  · cases e
theorem v2_cmp {f : Int → Int → Bool} : V2 K (rI0 fun i j => .bl (f i j)) (gCmpI f) := by
  intro S H x y p q z Q s rx ry e k
  unfold gCmpI at e
  split at e
  · cases rx; cases ry; cases e
    exact ⟨_, _, rfl, rfl, k _ S H (Step.refl s) (.bl _)⟩
  · cases e
theorem v2_eq : V2 K (rEqD K) gEq := by
  intro S H x y p q z Q s rx ry e k
  unfold gEq at e
  split at e
  · rename_i hz
    cases e
    obtain ⟨h1, h2⟩ := (Bool.and_eq_true _ _).mp hz
    exact ⟨_, _, rx.dp s _ _ (SeqAt.canLay_of_shaped h1), ry.dp s _ _ (SeqAt.canLay_of_shaped h2), h1, h2, k _ S H (Step.refl s) (.bl _)⟩
  · cases e
theorem v2_ne : V2 K (rNeD K) gNe := by
  intro S H x y p q z Q s rx ry e k
  unfold gNe at e
  split at e
  · rename_i hz
    cases e
    obtain ⟨h1, h2⟩ := (Bool.and_eq_true _ _).mp hz
    exact ⟨_, _, rx.dp s _ _ (SeqAt.canLay_of_shaped h1), ry.dp s _ _ (SeqAt.canLay_of_shaped h2), h1, h2, k _ S H (Step.refl s) (.bl _)⟩
  · cases e
theorem rep_non {S : Hp} {p : PV} {x : V} (r : Rep K S p x) : decide (x = .non) = (match p with | .non => true | _ => false) := by
  cases r <;> simp
theorem v2_isN : V2 K (fun x y H Q => y = .non ∧ Q (.bl (decide (x = .non))) H) (gIsN false) := by
  intro S H x y p q z Q s rx ry e k
  have hr := rep_non rx
  cases q with
  | non =>
    cases ry
    refine ⟨rfl, ?_⟩
    rw [hr]
    cases p <;> simp [gIsN] at e <;> subst e <;> exact k _ S H (Step.refl s) (.bl _)
  | _ => cases p <;> simp [gIsN] at e
theorem v2_notN : V2 K (fun x y H Q => y = .non ∧ Q (.bl (!decide (x = .non))) H) (gIsN true) := by
  intro S H x y p q z Q s rx ry e k
  have hr := rep_non rx
  cases q with
  | non =>
    cases ry
    refine ⟨rfl, ?_⟩
    rw [hr]
    cases p <;> simp [gIsN] at e <;> subst e <;> exact k _ S H (Step.refl s) (.bl _)
  | _ => cases p <;> simp [gIsN] at e
theorem sgn1_eq {x : Str} {c : Nat} (h : sgn1 x = some c) : x = ⟨#[c]⟩ := by
  unfold sgn1 at h
  split at h
  · rename_i d e
    cases h
    exact Str.ext' (by rw [← Array.toArray_toList (xs := x.cps), e])
  · cases h
theorem any_toDs (p : PV) : ∀ ps : List PV, (toDs ps).any (fun z => PyData.eqv z p.toD) = ps.any fun y => pvEq y p
  | [] => rfl
  | q :: ps => by
    show (PyData.eqv q.toD p.toD || (toDs ps).any fun z => PyData.eqv z p.toD) = _
    rw [any_toDs p ps]
    rfl
def rInU (K : PySem.W.Frag) : R2 := fun x y H Q => (∃ (c : Nat) (z : Str), x = .str ⟨#[c]⟩ ∧ y = .str z ∧ Q (.bl (decide (c ∈ z.cps.toList))) H) ∨ rInD K x y H Q
def rNotInU (K : PySem.W.Frag) : R2 := fun x y H Q => (∃ (c : Nat) (z : Str), x = .str ⟨#[c]⟩ ∧ y = .str z ∧ Q (.bl (!decide (c ∈ z.cps.toList))) H) ∨ rNotInD K x y H Q
theorem v2_in : V2 K (rInU K) (gIn false) := by
  intro S H x y p q z Q s rx ry e k
  unfold gIn at e
  split at e
  · rename_i a b
    cases hs : sgn1 a with
    | none => rw [hs] at e; cases e
    | some c =>
      rw [hs] at e
      cases e
      cases rx; cases ry
      rw [sgn1_eq hs]
      exact .inl ⟨c, _, rfl, rfl, k _ S H (Step.refl s) (.bl _)⟩
  · rename_i ps _
    split at e
    · rename_i hz
      cases e
      obtain ⟨h1, h2⟩ := (Bool.and_eq_true _ _).mp hz
      refine .inr ⟨_, _, rx.dp s _ _ (SeqAt.canLay_of_shaped h1), ry.dp s _ _ (SeqAt.canLay_of_shaped h2), h1, h2, ?_⟩
      rw [any_toDs]
      exact k _ S H (Step.refl s) (.bl _)
    · cases e
  · cases e
theorem v2_notIn : V2 K (rNotInU K) (gIn true) := by
  intro S H x y p q z Q s rx ry e k
  unfold gIn at e
  split at e
  · rename_i a b
    cases hs : sgn1 a with
    | none => rw [hs] at e; cases e
    | some c =>
      rw [hs] at e
      cases e
      cases rx; cases ry
      rw [sgn1_eq hs]
      exact .inl ⟨c, _, rfl, rfl, k _ S H (Step.refl s) (.bl _)⟩
  · rename_i ps _
    split at e
    · rename_i hz
      cases e
      obtain ⟨h1, h2⟩ := (Bool.and_eq_true _ _).mp hz
      refine .inr ⟨_, _, rx.dp s _ _ (SeqAt.canLay_of_shaped h1), ry.dp s _ _ (SeqAt.canLay_of_shaped h2), h1, h2, ?_⟩
      rw [any_toDs]
      exact k _ S H (Step.refl s) (.bl _)
    · cases e
  · cases e
theorem v2_ix : V2 K (rIx K) gIx := by
  intro S H x y p q z Q s rx ry e k
  unfold gIx at e
  split at e
  · cases ry
    cases rx with
    | lst h1 h2 =>
      obtain ⟨v, h3, h4⟩ := h2.atI e
      exact .inl ⟨_, _, _, _, rfl, rfl, .inl (.inl (s _ _ h1)), h3, k _ S H (Step.refl s) h4⟩
  · cases ry
    cases rx with
    | tup h1 h2 =>
      obtain ⟨v, h3, h4⟩ := h2.atI e
      exact .inr (.inl ⟨_, _, _, _, rfl, rfl, .inl (.inl (s _ _ h1)), h3, k _ S H (Step.refl s) h4⟩)
  · cases ry
    cases rx with
    | ktup h1 h2 =>
      obtain ⟨v, h3, h4⟩ := h2.atI e
      exact .inr (.inl ⟨_, _, _, _, rfl, rfl, Same.tupK s h1, h3, k _ S H (Step.refl s) h4⟩)
  · cases ry
    cases rx with
    | klst h1 h2 =>
      obtain ⟨v, h3, h4⟩ := h2.atI e
      exact .inl ⟨_, _, _, _, rfl, rfl, Same.lstK s h1, h3, k _ S H (Step.refl s) h4⟩
  · cases ry; cases rx
    split at e
    · rename_i z' i hz
      cases h : L2.atI z'.cps.toList i with
      | none => rw [h] at e; cases e
      | some c =>
        rw [h] at e
        cases e
        exact .inr (.inr ⟨_, _, _, rfl, rfl, hz, h, k _ S H (Step.refl s) (.str _)⟩)
    · cases e
  · cases e
theorem vt_truth : VT K (fun x H Q => ∃ k, TruV K x H k ∧ Q k H) truth := by
  intro S H x p z Q s rx e k
  cases p with
  | non => cases rx; cases e; exact ⟨_, rfl, k⟩
  | bl b => cases rx; cases e; exact ⟨_, rfl, k⟩
  | int i => cases rx; cases e; exact ⟨_, rfl, k⟩
  | str y =>
    cases rx
    have e : (if y.length ≤ sizeLine then some ((y.length : Int) != 0) else none) = some z := e
    split at e
    · rename_i hz
      cases e
      exact ⟨_, ⟨hz, rfl⟩, k⟩
    · cases e
  | lst ps =>
    cases rx with
    | lst h1 h2 =>
      cases e
      refine ⟨_, .inl ⟨_, .inl (.inl (s _ _ h1)), ?_⟩, k⟩
      cases h2 <;> rfl
  | tup ps =>
    cases rx with
    | tup h1 h2 =>
      cases e
      refine ⟨_, .inr (.inl ⟨_, .inl (.inl (s _ _ h1)), ?_⟩), k⟩
      cases h2 <;> rfl
  | ktup ps =>
    cases rx with
    | ktup h1 h2 =>
      cases e
      refine ⟨_, .inr (.inl ⟨_, Same.tupK s h1, ?_⟩), k⟩
      cases h2 <;> rfl
  | klst ps =>
    cases rx with
    | klst h1 h2 =>
      cases e
      refine ⟨_, .inl ⟨_, Same.lstK s h1, ?_⟩, k⟩
      cases h2 <;> rfl
  | dic t ks ps => cases e
  | fn a => cases e
/-! ### slices -/
def VS (K : PySem.W.Frag) (r : V → Option Int → Option Int → Hp → VK → Prop) (g : PV → Option Int → Option Int → Option PV) : Prop :=
  ∀ (S H : Hp) (x : V) (p z : PV) (lo hi : Option Int) (Q : VK), Same S H → Rep K S p x → g p lo hi = some z → (∀ v S' H', Step S H S' H' → Rep K S' z v → Q v H') → r x lo hi H Q
def VSF (K : PySem.W.Frag) (r : V → Option Int → Option Int → Hp → VK → Prop) (g : PV → Option Int → Option Int → Option PV) : Prop :=
  ∀ (S H : Hp) (x : V) (p z : PV) (lo hi : Option Int) (Q : VK), Same S H → Rep K S p x → g p lo hi = some z → (∀ a o, H a = none → OwnO K S z o → Q (.ref a) (upd H a o)) → r x lo hi H Q
def gSl : PV → Option Int → Option Int → Option PV
  | .lst ps, lo, hi => some (.lst (cutP ps lo hi))
  | .tup ps, lo, hi => some (.tup (cutP ps lo hi))
  | .str z, lo, hi => if z.length ≤ sizeLine then some (.str (cutS z lo hi)) else none
  | _, _, _ => none
def gSlL : PV → Option Int → Option Int → Option PV
  | .lst ps, lo, hi => some (.lst (cutP ps lo hi))
  | _, _, _ => none
theorem vsf_list : VSF K (rSlL K) gSlL := by
  intro S H x p z lo hi Q s rx e k
  unfold gSlL at e
  split at e
  · cases e
    cases rx with
    | lst h1 h2 => exact ⟨_, _, rfl, .inl (.inl (s _ _ h1)), fun a n => k a _ n h2.cut⟩
  · cases e
def rSlU (K : PySem.W.Frag) : V → Option Int → Option Int → Hp → VK → Prop := fun x lo hi H Q => rSlL K x lo hi H Q ∨ rSlA K x lo hi H Q ∨ rSlS x lo hi H Q
theorem sl_U {X : Cx} : SlR X (rSlU X.K) := sl_list.or (sl_tupA.or sl_str)
theorem cut_all {α : Type} (xs : List α) (lo hi : Option Int) (h : HT.sIx xs.length 0 lo = 0 ∧ HT.sIx xs.length xs.length hi = xs.length) : cutP xs lo hi = xs := by
  unfold cutP
  rw [h.1, h.2]
  simp
theorem vs_U : VS K (rSlU K) gSl := by
  intro S H x p z lo hi Q s rx e k
  unfold gSl at e
  split at e
  · cases e
    cases rx with
    | lst h1 h2 => exact .inl ⟨_, _, rfl, .inl (.inl (s _ _ h1)), fun a n => k _ _ _ (own_new (z := .lst _) (o := .lst _) s n h2.cut).1 (own_new (z := .lst _) (o := .lst _) s n h2.cut).2⟩
  · cases e
    cases rx with
    | tup h1 h2 =>
      rename_i ps a vs
      refine .inr (.inl ⟨_, _, rfl, .inl (.inl (s _ _ h1)), fun hw => ?_, fun hw c n => ?_⟩)
      · rw [← h2.length] at hw
        rw [cut_all ps _ _ hw] at k
        exact k _ S H (Step.refl s) (.tup h1 h2)
      · refine k _ (upd S c (.tup (cutV vs lo hi))) _ (Step.new1 s n) ?_
        exact .tup upd_same (h2.cut.up (same_upd (Same.free s n)))
  · split at e
    · rename_i hz
      cases e
      cases rx
      exact .inr (.inr ⟨_, rfl, hz, k _ S H (Step.refl s) (.str _)⟩)
    · cases e
  · cases e
end
/-! a slice's parts -/
abbrev DenO := Env → Rs (Option Int)
def rO : RelT (Option Int) (Option Int) := fun _ _ _ _ _ a b => b = a
abbrev OOk (K : PySem.W.Frag) (mg : Str → Option Value) (W : WX) (t : TO) (d : DenO) : Prop := XOk K mg W rO t d
def oNone : DenO := fun ρ => .ok none ρ
def PV.int? : PV → Option Int
  | .int i => some i
  | _ => none
def oSome (da : Den) : DenO := fun ρ => (da ρ).bind fun p ρ1 => opt (p.int?.map some) ρ1
def dSl (g : PV → Option Int → Option Int → Option PV) (da : Den) (dl dh : DenO) : Den := fun ρ => (da ρ).bind fun p ρ1 => (dl ρ1).bind fun l ρ2 => (dh ρ2).bind fun h ρ3 => opt (g p l h) ρ3
/-- a slice of a slot that is only looked at: lists and texts -/
def dSlv (g : PV → Option Int → Option Int → Option PV) (i : Nat) (dl dh : DenO) : Den := fun ρ => match slot ρ i with
  | none => .bad
  | some _ => (dl ρ).bind fun l ρ2 => (dh ρ2).bind fun h ρ3 => match slot ρ3 i with
    | none => .bad
    | some p => opt (g p l h) ρ3
section
variable {K : PySem.W.Frag} {mg : Str → Option Value} {W : WX}
theorem oo_none : OOk K mg W tNoPart oNone := fun H₀ S₀ M S σ H ρ Q ab hp => hp none S H ab rfl
theorem oo_some {te : TE} {da : Den} (ha : EOk K mg W te da) : OOk K mg W (tPart te) (oSome da) := fun H₀ S₀ M S σ H ρ Q ab hp =>
  ha.bind (Rl' := rO) ab hp fun p ρ1 v S1 H1 _ a1 _ r1 hp => by
    cases p with
    | int i =>
      cases r1
      exact ⟨i, rfl, hp (some i) S1 H1 a1 rfl⟩
    | _ => exact hp.elim
theorem eo_sl {te : TE} {da : Den} {tl th : TO} {dl dh : DenO} {r : V → Option Int → Option Int → Hp → VK → Prop} {g : PV → Option Int → Option Int → Option PV} (ha : EOk K mg W te da) (hl : OOk K mg W tl dl) (hh : OOk K mg W th dh) (hr : VS K r g) : EOk K mg W (tSl r te tl th) (dSl g da dl dh) := fun H₀ S₀ M S σ H ρ Q ab hp =>
  ha.bind (Rl' := rV K) ab hp fun p ρ1 v S1 H1 _ a1 _ r1 hp => hl.bind (Rl' := rV K) a1 hp fun l ρ2 l' S2 H2 _ a2 s2 r2 hp => hh.bind (Rl' := rV K) a2 hp fun h ρ3 h' S3 H3 _ a3 s3 r3 hp => by
    cases r2; cases r3
    cases e : g p l h with
    | none => rw [e] at hp; exact hp.elim
    | some z =>
      rw [e] at hp
      exact hr S3 H3 v p z l h Q a3.sub (r1.up (s2.trans s3)) e fun v' S4 H4 st rz => hp v' S4 H4 (a3.step st) rz
theorem fo_sl {te : TE} {da : Den} {tl th : TO} {dl dh : DenO} {r : V → Option Int → Option Int → Hp → VK → Prop} {g : PV → Option Int → Option Int → Option PV} (ha : EOk K mg W te da) (hl : OOk K mg W tl dl) (hh : OOk K mg W th dh) (hr : VSF K r g) : FOk K mg W (tSl r te tl th) (dSl g da dl dh) := fun H₀ S₀ M S σ H ρ Q ab hp =>
  ha.bind (Rl' := rF K) ab hp fun p ρ1 v S1 H1 _ a1 _ r1 hp => hl.bind (Rl' := rF K) a1 hp fun l ρ2 l' S2 H2 _ a2 s2 r2 hp => hh.bind (Rl' := rF K) a2 hp fun h ρ3 h' S3 H3 _ a3 s3 r3 hp => by
    cases r2; cases r3
    cases e : g p l h with
    | none => rw [e] at hp; exact hp.elim
    | some z =>
      rw [e] at hp
      exact hr S3 H3 v p z l h Q a3.sub (r1.up (s2.trans s3)) e fun a o n w => hp _ S3 _ (a3.fresh n w).1 (a3.fresh n w).2
/-- the items of an owned list are shared -/
theorem own_lst {S : Hp} {ps : List PV} {o : HO} (w : OwnO K S (.lst ps) o) : ∃ vs, o = .lst vs ∧ RepL K S ps vs := by
  cases o with
  | lst vs => exact ⟨vs, rfl, w⟩
  | _ => exact w.elim
/-- what a slot holds, as a list (or a shared value) -/
theorem Abs.lookL {H₀ S₀ : Hp} {M : Addr → Prop} {S H : Hp} {σ : St} {ρ : Env} {i : Nat} {p : PV} (a : Abs K H₀ S₀ M S σ H ρ) (e : slot ρ i = some p) :
    ∃ v, σ[i]? = some (some v) ∧ (Rep K S p v ∨ ∃ b o, v = .ref b ∧ S b = none ∧ H b = some o ∧ OwnO K S p o) := by
  unfold slot at e
  cases e1 : ρ[i]? with
  | none => rw [e1] at e; cases e
  | some s =>
    rw [e1] at e
    cases s with
    | un => cases e
    | sh q =>
      cases e
      obtain ⟨v, h1, h2⟩ := a.sh i _ e1
      exact ⟨v, h1, .inl h2⟩
    | ow q =>
      cases e
      obtain ⟨b, o, h1, h2, h3, h4, h5, h6⟩ := a.own i _ _ e1 rfl
      exact ⟨_, h1, .inr ⟨b, o, rfl, h4, h5, h6⟩⟩
    | io q =>
      cases e
      obtain ⟨b, o, h1, h2, h3, h4, h5, h6⟩ := a.own i _ _ e1 rfl
      exact ⟨_, h1, .inr ⟨b, o, rfl, h4, h5, h6⟩⟩
/-- an item of a slot that is only looked at -/
theorem eo_ixv {i : Nat} {tb : TE} {db : Den} (hb : EOk K mg W tb db) : EOk K mg W (tOp (rIx K) (tVar i) tb) (d2l gIx i db) := by
  intro H₀ S₀ M S σ H ρ Q ab hp
  unfold d2l at hp
  cases e0 : slot ρ i with
  | none => rw [e0] at hp; exact hp.elim
  | some p0 =>
    rw [e0] at hp
    obtain ⟨v, _, hv, _⟩ := ab.look e0
    refine ⟨v, hv, ?_⟩
    refine hb.bind (Rl' := rV K) ab hp fun q ρ1 u S1 H1 _ a1 _ r1 hp => ?_
    cases e1 : slot ρ1 i with
    | none => rw [e1] at hp; exact hp.elim
    | some p =>
      rw [e1] at hp
      obtain ⟨v', hv', h⟩ := a1.lookL e1
      rw [hv] at hv'
      cases hv'
      cases e : gIx p q with
      | none => simp only [e] at hp; exact hp.elim
      | some z =>
        simp only [e] at hp
        rcases h with h | ⟨b, o, rfl, h2, h3, h4⟩
        · exact v2_ix S1 H1 v u p q z Q a1.sub h r1 e fun v' S3 H3 st rz => hp v' S3 H3 (a1.step st) rz
        · cases p with
          | lst ps =>
            obtain ⟨vs, rfl, h5⟩ := own_lst h4
            cases q with
            | int k =>
              cases r1
              obtain ⟨w, h6, h7⟩ := h5.atI (show L2.atI ps k = some z from e)
              exact .inl ⟨_, _, _, _, rfl, rfl, .inl (.inl h3), h6, hp _ S1 H1 a1 h7⟩
            | _ => cases e
          | dic t ks ps => cases e
          | _ => exact h4.elim
/-- a new list cut out of a slot that is only looked at -/
theorem fo_slv {i : Nat} {tl th : TO} {dl dh : DenO} (hl : OOk K mg W tl dl) (hh : OOk K mg W th dh) : FOk K mg W (tSl (rSlL K) (tVar i) tl th) (dSlv gSlL i dl dh) := by
  intro H₀ S₀ M S σ H ρ Q ab hp
  unfold dSlv at hp
  cases e0 : slot ρ i with
  | none => rw [e0] at hp; exact hp.elim
  | some p0 =>
    rw [e0] at hp
    obtain ⟨v, _, hv, _⟩ := ab.look e0
    refine ⟨v, hv, ?_⟩
    refine hl.bind (Rl' := rF K) ab hp fun l ρ2 l' S2 H2 _ a2 s2 r2 hp => hh.bind (Rl' := rF K) a2 hp fun h ρ3 h' S3 H3 _ a3 s3 r3 hp => ?_
    cases r2; cases r3
    cases e1 : slot ρ3 i with
    | none => rw [e1] at hp; exact hp.elim
    | some p =>
      rw [e1] at hp
      obtain ⟨v', hv', hL⟩ := a3.lookL e1
      rw [hv] at hv'
      cases hv'
      cases p with
      | lst ps =>
        have hp : Post K mg W (rF K) H₀ S₀ M σ (.ok (.lst (cutP ps l h)) ρ3) Q := hp
        rcases hL with hL | ⟨b, o, rfl, h2, h3, h4⟩
        · cases hL with
          | lst h1 h2 => exact ⟨_, _, rfl, .inl (.inl (a3.sub _ _ h1)), fun c n => hp _ S3 _ (a3.fresh n (p := .lst _) (o := .lst _) h2.cut).1 (a3.fresh n (p := .lst _) (o := .lst _) h2.cut).2⟩
        · obtain ⟨vs, rfl, h5⟩ := own_lst h4
          exact ⟨_, _, rfl, .inl (.inl h3), fun c n => hp _ S3 _ (a3.fresh n (p := .lst _) (o := .lst _) h5.cut).1 (a3.fresh n (p := .lst _) (o := .lst _) h5.cut).2⟩
      | _ => exact hp.elim
end
/-! ### built-in functions -/
section
variable {K : PySem.W.Frag}
def gLenN : List PV → Option PV
  | [p] => gLen p
  | _ => none
theorem vn_len : VN K (fun xs H Q => ∃ x n, xs = [x] ∧ LenV K x H n ∧ Q (.int n) H) gLenN := by
  intro S H xs ps z Q s rx e k
  unfold gLenN at e
  split at e
  · rename_i p
    cases rx with
    | cons r1 r2 =>
      cases r2
      unfold gLen at e
      split at e
      · cases r1 with
        | lst h1 h2 =>
          cases e
          refine ⟨_, _, rfl, .inl ⟨_, .inl (.inl (s _ _ h1)), rfl⟩, ?_⟩
          rw [← h2.length]
          exact k _ S H (Step.refl s) (.int _)
      · cases r1 with
        | tup h1 h2 =>
          cases e
          refine ⟨_, _, rfl, .inr ⟨_, .inl (.inl (s _ _ h1)), rfl⟩, ?_⟩
          rw [← h2.length]
          exact k _ S H (Step.refl s) (.int _)
      · cases r1 with
        | ktup h1 h2 =>
          cases e
          refine ⟨_, _, rfl, .inr ⟨_, Same.tupK s h1, rfl⟩, ?_⟩
          rw [← h2.length]
          exact k _ S H (Step.refl s) (.int _)
      · cases r1 with
        | klst h1 h2 =>
          cases e
          refine ⟨_, _, rfl, .inl ⟨_, Same.lstK s h1, rfl⟩, ?_⟩
          rw [← h2.length]
          exact k _ S H (Step.refl s) (.int _)
      · split at e
        · rename_i hz
          cases e
          cases r1
          exact ⟨_, _, rfl, ⟨hz, rfl⟩, k _ S H (Step.refl s) (.int _)⟩
        · cases e
      · cases e
  · cases e
theorem len_sc : ∀ p z, gLenN [p] = some z → z.sc = true := by
  intro p z e
  cases p with
  | lst ps => cases e; rfl
  | tup ps => cases e; rfl
  | ktup ps => cases e; rfl
  | klst ps => cases e; rfl
  | str x =>
    have e : (if x.length ≤ sizeLine then some (PV.int x.length) else none) = some z := e
    split at e
    · cases e; rfl
    · cases e
  | _ => cases e
def gAbs : List PV → Option PV
  | [.int i] => some (.int (if i < 0 then -i else i))
  | _ => none
theorem vn_abs : VN K (fun xs H Q => ∃ i, xs = [.int i] ∧ Q (.int (if i < 0 then -i else i)) H) gAbs := by
  intro S H xs ps z Q s rx e k
  unfold gAbs at e
  split at e
  · cases rx with
    | cons r1 r2 =>
      cases r2; cases r1; cases e
      exact ⟨_, rfl, k _ S H (Step.refl s) (.int _)⟩
  · cases e
def gMax2 : List PV → Option PV
  | [.int i, .int j] => some (.int (if j > i then j else i))
  | _ => none
def gMin2 : List PV → Option PV
  | [.int i, .int j] => some (.int (if j < i then j else i))
  | _ => none
theorem vn_max2 : VN K (fun xs H Q => ∃ i j, xs = [.int i, .int j] ∧ Q (.int (if j > i then j else i)) H) gMax2 := by
  intro S H xs ps z Q s rx e k
  unfold gMax2 at e
  split at e
  · cases rx with
    | cons r1 r2 =>
      cases r2 with
      | cons r3 r4 =>
        cases r4; cases r1; cases r3; cases e
        exact ⟨_, _, rfl, k _ S H (Step.refl s) (.int _)⟩
  · cases e
theorem vn_min2 : VN K (fun xs H Q => ∃ i j, xs = [.int i, .int j] ∧ Q (.int (if j < i then j else i)) H) gMin2 := by
  intro S H xs ps z Q s rx e k
  unfold gMin2 at e
  split at e
  · cases rx with
    | cons r1 r2 =>
      cases r2 with
      | cons r3 r4 =>
        cases r4; cases r1; cases r3; cases e
        exact ⟨_, _, rfl, k _ S H (Step.refl s) (.int _)⟩
  · cases e
def gInt : List PV → Option PV
  | [.int i] => some (.int i)
  | [.bl b] => some (.int (if b then 1 else 0))
  | [.str a] => if a.length ≤ 640 then (PySem.intText? a).map .int else none
  | _ => none
def rIntU : List V → Hp → VK → Prop := fun xs H Q => ((∃ i, xs = [.int i] ∧ Q (.int i) H) ∨ ∃ k, xs = [.bl k] ∧ Q (.int (if k then 1 else 0)) H) ∨ ∃ a n, xs = [.str a] ∧ PySem.intText? a = some n ∧ a.length ≤ 640 ∧ Q (.int n) H
theorem CallR.or {X : Cx} {f : Value} {r r' : List V → Hp → VK → Prop} (h : CallR X f r) (h' : CallR X f r') : CallR X f (fun xs H Q => r xs H Q ∨ r' xs H Q) := by
  intro pins s σ H vs us Q I r q
  rcases q with q | q
  · exact h pins s σ H vs us Q I r q
  · exact h' pins s σ H vs us Q I r q
theorem call_intU {X : Cx} : CallR X (.type "int") rIntU := CallR.or call_int1 call_int_str
theorem vn_int : VN K rIntU gInt := by
  intro S H xs ps z Q s rx e k
  unfold gInt at e
  split at e
  · cases rx with
    | cons r1 r2 =>
      cases r2; cases r1; cases e
      exact .inl (.inl ⟨_, rfl, k _ S H (Step.refl s) (.int _)⟩)
  · cases rx with
    | cons r1 r2 =>
      cases r2; cases r1; cases e
      exact .inl (.inr ⟨_, rfl, k _ S H (Step.refl s) (.int _)⟩)
  · cases rx with
    | cons r1 r2 =>
      cases r2; cases r1
      rename_i a
      split at e
      · rename_i hz
        cases h : PySem.intText? a with
        | none => rw [h] at e; cases e
        | some n =>
          rw [h] at e
          cases e
          exact .inr ⟨_, _, rfl, h, hz, k _ S H (Step.refl s) (.int _)⟩
      · cases e
  · cases e
def gSumN : List PV → Option PV
  | [.lst ps] => (ints? ps).map fun ns => .int ns.sum
  | _ => none
theorem vn_sum : VN K (rSum K) gSumN := by
  intro S H xs ps z Q s rx e k
  unfold gSumN at e
  split at e
  · rename_i ps
    cases rx with
    | cons r1 r2 =>
      cases r2
      cases r1 with
      | lst h1 h2 =>
        cases h : ints? ps with
        | none => rw [h] at e; cases e
        | some ns =>
          rw [h] at e
          cases e
          rw [h2.ints h] at h1
          exact ⟨_, _, rfl, .inl (.inl (s _ _ h1)), k _ S H (Step.refl s) (.int _)⟩
  · cases e
/-! ### what changes a list -/
def gAppend : PV → List PV → Option (PV × PV)
  | .lst ps, [p] => if ps.length < sizeLine then some (.lst (ps ++ [p]), .non) else none
  | _, _ => none
theorem mu_append : MutOk K rAppend gAppend := by
  intro S H b o p q z ps vs Q s sb hb w r e k
  unfold gAppend at e
  split at e
  · rename_i xs p1
    split at e
    · rename_i hz
      cases e
      obtain ⟨us, rfl, h5⟩ := own_lst w
      cases r with
      | cons r1 r2 =>
        cases r2
        exact ⟨_, _, _, rfl, rfl, hb, by rw [← h5.length]; exact hz, k _ _ (h5.append (.cons r1 .nil)) .non⟩
    · cases e
  · cases e
def gPop : PV → List PV → Option (PV × PV)
  | .lst ps, [] => (ps[ps.length - 1]?).map fun p => (.lst ps.dropLast, p)
  | _, _ => none
theorem mu_pop : MutOk K rPop gPop := by
  intro S H b o p q z ps vs Q s sb hb w r e k
  unfold gPop at e
  split at e
  · rename_i xs
    cases h : xs[xs.length - 1]? with
    | none => rw [h] at e; cases e
    | some p1 =>
      rw [h] at e
      cases e
      obtain ⟨us, rfl, h5⟩ := own_lst w
      cases r
      obtain ⟨v, h6, h7⟩ := h5.get h
      rw [h5.length] at h6
      exact ⟨_, _, _, rfl, rfl, hb, h6, k _ _ h5.dropLast h7⟩
  · cases e
def gPopAt : PV → List PV → Option (PV × PV)
  | .lst ps, [.int i] => if decide (-(2 ^ 63) ≤ i) && decide (i < 2 ^ 63) then (seqIndex? i ps.length).bind fun j => (ps[j]?).map fun p => (.lst (ps.eraseIdx j), p) else none
  | _, _ => none
theorem mu_popAt : MutOk K rPopAt gPopAt := by
  intro S H b o p q z ps vs Q s sb hb w r e k
  unfold gPopAt at e
  split at e
  · rename_i xs i
    split at e
    · rename_i hz
      simp only [Bool.and_eq_true, decide_eq_true_eq] at hz
      cases hj : seqIndex? i xs.length with
      | none => rw [hj] at e; cases e
      | some j =>
        rw [hj] at e
        have e : (xs[j]?).map (fun p => (PV.lst (xs.eraseIdx j), p)) = some (q, z) := e
        cases h : xs[j]? with
        | none => rw [h] at e; cases e
        | some p1 =>
          rw [h] at e
          cases e
          obtain ⟨us, rfl, h5⟩ := own_lst w
          cases r with
          | cons r1 r2 =>
            cases r2; cases r1
            obtain ⟨v, h6, h7⟩ := h5.get h
            rw [h5.length] at hj
            exact ⟨_, _, _, _, _, rfl, rfl, hb, hz.1, hz.2, hj, h6, k _ _ (h5.eraseIdx j) h7⟩
    · cases e
  · cases e
def gReverse : PV → List PV → Option (PV × PV)
  | .lst ps, [] => some (.lst ps.reverse, .non)
  | _, _ => none
theorem mu_reverse : MutOk K rReverse gReverse := by
  intro S H b o p q z ps vs Q s sb hb w r e k
  unfold gReverse at e
  split at e
  · cases e
    obtain ⟨us, rfl, h5⟩ := own_lst w
    cases r
    exact ⟨_, _, rfl, rfl, hb, k _ _ h5.reverse .non⟩
  · cases e
def gExtend : PV → List PV → Option (PV × PV)
  | .lst ps, [.lst qs] => if ps.length + qs.length ≤ sizeLine then some (.lst (ps ++ qs), .non) else none
  | _, _ => none
theorem mu_extend : MutOk K rExtend gExtend := by
  intro S H b o p q z ps vs Q s sb hb w r e k
  unfold gExtend at e
  split at e
  · split at e
    · rename_i hz
      cases e
      obtain ⟨us, rfl, h5⟩ := own_lst w
      cases r with
      | cons r1 r2 =>
        cases r2
        cases r1 with
        | lst h1 h2 =>
          refine ⟨_, _, _, _, rfl, rfl, hb, s _ _ h1, ?_, k _ _ (h5.append h2) .non⟩
          rw [← h5.length, ← h2.length]
          exact hz
    · cases e
  · cases e
def gSetL : PV → PV → PV → Option PV
  | .lst ps, .int i, e => (ixN ps.length i).map fun j => .lst (ps.set j e)
  | _, _, _ => none
theorem st_list : SetOk K rSetL gSetL := by
  intro S H b o p i e q x y Q s sb hb w rx ry e1 k
  cases p with
  | lst ps =>
    cases i with
    | int n =>
      have e1 : (ixN ps.length n).map (fun j => PV.lst (ps.set j e)) = some q := e1
      cases hj : ixN ps.length n with
      | none => rw [hj] at e1; cases e1
      | some j =>
        rw [hj] at e1
        cases e1
        obtain ⟨us, rfl, h5⟩ := own_lst w
        cases rx
        rw [h5.length] at hj
        exact ⟨_, _, _, _, rfl, rfl, hb, hj, k _ (h5.set ry j)⟩
    | _ => cases e1
  | _ => cases i <;> cases e1
end
end PL

set_option Elab.async false
set_option linter.all false
set_option maxRecDepth 100000
set_option maxHeartbeats 4000000
namespace PL
open PySem PySem.Spec L2
set_option autoImplicit false

/-! ### pieces of syntax and what they are worth -/
def canon {α β : Type} (K : PySem.W.Frag) (mg : Str → Option Value) (W : WX) (Rl : RelT α β) (d : Env → Rs α) : St → Hp → (β → Hp → Prop) → Prop := fun σ H Q =>
  ∃ H₀ S₀ M S ρ, Abs K H₀ S₀ M S σ H ρ ∧ Post K mg W Rl H₀ S₀ M σ (d ρ) Q
theorem canon_ok {α β : Type} {K : PySem.W.Frag} {mg : Str → Option Value} {W : WX} {Rl : RelT α β} {d : Env → Rs α} : XOk K mg W Rl (canon K mg W Rl d) d := fun H₀ S₀ M S σ H ρ Q ab hp => ⟨H₀, S₀, M, S, ρ, ab, hp⟩
theorem canon_to {α β : Type} {K : PySem.W.Frag} {mg : Str → Option Value} {W : WX} {Rl : RelT α β} {d : Env → Rs α} {t : St → Hp → (β → Hp → Prop) → Prop} (h : XOk K mg W Rl t d) {σ : St} {H : Hp} {Q : β → Hp → Prop} (q : canon K mg W Rl d σ H Q) : t σ H Q := by
  obtain ⟨H₀, S₀, M, S, ρ, ab, hp⟩ := q
  exact h H₀ S₀ M S σ H ρ Q ab hp
def canonS (K : PySem.W.Frag) (mg : Str → Option Value) (W : WX) (fr : Bool) (d : DenS) : TS := fun D σ H => ∃ H₀ S₀ M S ρ, Abs K H₀ S₀ M S σ H ρ ∧ SPost K mg W fr H₀ S₀ M (d ρ) D
theorem canonS_ok {K : PySem.W.Frag} {mg : Str → Option Value} {W : WX} {fr : Bool} {d : DenS} : SOk K mg W fr (canonS K mg W fr d) d := fun H₀ S₀ M S σ H ρ D ab hp => ⟨H₀, S₀, M, S, ρ, ab, hp⟩
theorem canonS_to {K : PySem.W.Frag} {mg : Str → Option Value} {W : WX} {fr : Bool} {d : DenS} {t : TS} (h : SOk K mg W fr t d) {D : Ends} {σ : St} {H : Hp} (q : canonS K mg W fr d D σ H) : t D σ H := by
  obtain ⟨H₀, S₀, M, S, ρ, ab, hp⟩ := q
  exact h H₀ S₀ M S σ H ρ D ab hp
/-- an expression, shared; a fresh object; a test; and, or; arguments; a part of a slice; what is walked; statements -/
abbrev DE (X : Cx) (W : WX) (e : Expr) (d : Den) : Prop := PE X e (canon X.K X.mg W (rV X.K) d)
abbrev DF (X : Cx) (W : WX) (e : Expr) (d : Den) : Prop := PE X e (canon X.K X.mg W (rF X.K) d)
abbrev DT (X : Cx) (W : WX) (e : Expr) (d : DenB) : Prop := PT X e (canon X.K X.mg W rB d)
abbrev DW (X : Cx) (W : WX) (e : Expr) (d : DenB) : Prop := PW X e (canon X.K X.mg W rB d)
abbrev DA (X : Cx) (W : WX) (es : List Expr) (d : DenL) : Prop := PA X es (canon X.K X.mg W (rL X.K) d)
abbrev DO (X : Cx) (W : WX) (e : Option Expr) (d : DenO) : Prop := PO X e (canon X.K X.mg W rO d)
abbrev DI (X : Cx) (W : WX) (tg e : Expr) (d : DenL) : Prop := PI X tg e (canon X.K X.mg W (rIt X.K) d)
abbrev DTs (X : Cx) (W : WX) (es : List Expr) (d : DenB) : Prop := PTs X es (canon X.K X.mg W rB d)
abbrev DS (X : Cx) (W : WX) (fr : Bool) (st : Stmt) (d : DenS) : Prop := PS X st (canonS X.K X.mg W fr d)
abbrev DSs (X : Cx) (W : WX) (fr : Bool) (st : List Stmt) (d : DenS) : Prop := PSs X st (canonS X.K X.mg W fr d)
section
variable {X : Cx} {W : WX} {fr : Bool}
theorem DE.of {e : Expr} {t : TE} {d : Den} (h : PE X e t) (k : EOk X.K X.mg W t d) : DE X W e d := ⟨fun pins s σ H Q I q => h.run pins s σ H Q I (canon_to k q)⟩
theorem DF.of {e : Expr} {t : TE} {d : Den} (h : PE X e t) (k : FOk X.K X.mg W t d) : DF X W e d := ⟨fun pins s σ H Q I q => h.run pins s σ H Q I (canon_to k q)⟩
theorem DT.of {e : Expr} {t : TT} {d : DenB} (h : PT X e t) (k : TOk X.K X.mg W t d) : DT X W e d := ⟨fun pins s σ H Q I q => h.run pins s σ H Q I (canon_to k q)⟩
theorem DW.of {e : Expr} {t : TT} {d : DenB} (h : PW X e t) (k : TOk X.K X.mg W t d) : DW X W e d := ⟨fun wh pins s σ H Q I q => h.run wh pins s σ H Q I (canon_to k q)⟩
theorem DA.of {es : List Expr} {t : TA} {d : DenL} (h : PA X es t) (k : AOk X.K X.mg W t d) : DA X W es d := ⟨fun pos pins s σ H Q I q => h.run pos pins s σ H Q I (canon_to k q)⟩
theorem DO.of {e : Option Expr} {t : TO} {d : DenO} (h : PO X e t) (k : OOk X.K X.mg W t d) : DO X W e d := ⟨fun pins s σ H Q I q => h.run pins s σ H Q I (canon_to k q)⟩
theorem DI.of {tg e : Expr} {t : TI} {d : DenL} (h : PI X tg e t) (k : IOk X.K X.mg W t d) : DI X W tg e d := ⟨fun pins s σ H R I q => h.run pins s σ H R I (canon_to k q)⟩
theorem DTs.of {es : List Expr} {t : TT} {d : DenB} (h : PTs X es t) (k : TOk X.K X.mg W t d) : DTs X W es d := ⟨fun pins s σ H Q I q => h.run pins s σ H Q I (canon_to k q)⟩
theorem DS.of {st : Stmt} {t : TS} {d : DenS} (h : PS X st t) (k : SOk X.K X.mg W fr t d) : DS X W fr st d := ⟨fun pins s σ H D I q => h.run pins s σ H D I (canonS_to k q)⟩
theorem DSs.of {st : List Stmt} {t : TS} {d : DenS} (h : PSs X st t) (k : SOk X.K X.mg W fr t d) : DSs X W fr st d := ⟨fun pins s σ H D I q => h.run pins s σ H D I (canonS_to k q)⟩
theorem DF.sh {e : Expr} {d : Den} (h : DF X W e d) : DE X W e d := DE.of h canon_ok.shared
end

/-- what a body's context grants -/
structure Ctx (X : Cx) (W : WX) (k : Nat) : Prop where
  calm : X.calm = true
  nd : X.N.Nodup
  room : Room k X.A
  tk : Takes X W
theorem Ctx.blk {X : Cx} {W : WX} {k : Nat} (c : Ctx X W k) {s : Shared} {H : Hp} {scope : Scope} {env : PySem.Env} {fp : List Addr} : Ctx (X.blk s H scope env fp) (fun _ _ _ _ => False) k := ⟨c.calm, c.nd, c.room, takes0⟩
theorem Ctx.hu {X : Cx} {W : WX} {k : Nat} (c : Ctx X W k) : X.A.units + 64 < cLine := c.room.units
theorem Ctx.hu1 {X : Cx} {W : WX} {k : Nat} (c : Ctx X W k) : X.A.units + 65 < cLine := by have := c.room.un; omega

/-- the built-in names are the built-ins -/
structure Bi (mg : Str → Option Value) : Prop where
  len : mg "len" = none
  abs : mg "abs" = none
  max : mg "max" = none
  min : mg "min" = none
  int : mg "int" = none
  sum : mg "sum" = none
  range : mg "range" = none
  list : mg "list" = none
  tuple : mg "tuple" = none
  sorted : mg "sorted" = none
  set : mg "set" = none
  zip : mg "zip" = none
  enumerate : mg "enumerate" = none
  reversed : mg "reversed" = none
  isinstance : mg "isinstance" = none
  str : mg "str" = none
  bool : mg "bool" = none
  dict : mg "dict" = none
  any : mg "any" = none
  all : mg "all" = none

section
variable {X : Cx} {W : WX} {fr : Bool} {k : Nat} {pos p p2 p3 apos cpos np : Pos} {e a b : Expr} {es rest : List Expr} {da db dc : Den} {dt du : DenB} {dl : DenL} {x : Str}
/-! ### expressions -/
theorem de_var (i : Nat) (hN : X.N[i]? = some x := by rfl) (hv : Vis X.env.scope x := by first | exact Or.inl rfl | exact Or.inr (Or.inl rfl) | exact Or.inr (Or.inr rfl)) (hd : (x == ("__debug__" : Str)) = false := by decide)
    (hcd : (x == ("__classdict__" : Str)) = false := by decide) : DE X W (.Name x pos) (dVar i) := DE.of (pe_var hN hv hd hcd) eo_var
theorem de_int {i : Int} {j : Nat} : DE X W (.Constant (.int i) j pos) (dC (.int i)) := DE.of pe_int (eo_c fun _ => .int i)
theorem de_bl {i : Bool} {j : Nat} : DE X W (.Constant (.bool i) j pos) (dC (.bl i)) := DE.of pe_bl (eo_c fun _ => .bl i)
theorem de_non {j : Nat} : DE X W (.Constant .none j pos) (dC .non) := DE.of pe_non (eo_c fun _ => .non)
theorem de_str {i : Str} {j : Nat} : DE X W (.Constant (.str i) j pos) (dC (.str i)) := DE.of pe_str (eo_c fun _ => .str i)
/-- a constant of the module -/
theorem de_glob {v : V} {q : PV} {u : Value} (hm : X.mg x = some u) (r : RelV v u) (h : ∀ S, Rep X.K S q v) (hg : Gl X x := by rfl) (hd : (x == ("__debug__" : Str)) = false := by decide) : DE X W (.Name x pos) (dC q) := DE.of (pe_glob hg hm r hd) (eo_c h)
theorem de_op {op : Operator} {r : R2} {g : PV → PV → Option PV} (ho : OpR X (binaryOp op) r) (hv : V2 X.K r g) (ha : DE X W a da) (hb : DE X W b db) : DE X W (.BinOp a op b pos) (d2 g da db) := DE.of (pe_op ho ha hb) (eo_2 canon_ok canon_ok hv)
theorem df_op {op : Operator} {r : R2} {g : PV → PV → Option PV} (ho : OpR X (binaryOp op) r) (hv : V2F X.K r g) (ha : DE X W a da) (hb : DE X W b db) : DF X W (.BinOp a op b pos) (d2 g da db) := DF.of (pe_op ho ha hb) (fo_2 canon_ok canon_ok hv)
abbrev dAdd := d2 gAdd
abbrev dSub := d2 gSub
abbrev dMul := d2 gMul
abbrev dFdiv := d2 gFdiv
abbrev dMod := d2 gMod
abbrev dPow := d2 gPow
abbrev dNeg := d1 gNeg
theorem de_add (ha : DE X W a da) (hb : DE X W b db) : DE X W (.BinOp a .Add b pos) (dAdd da db) := de_op op_addU v2_add ha hb
theorem de_sub (ha : DE X W a da) (hb : DE X W b db) : DE X W (.BinOp a .Sub b pos) (dSub da db) := de_op op_sub v2_sub ha hb
theorem de_mul (ha : DE X W a da) (hb : DE X W b db) : DE X W (.BinOp a .Mult b pos) (dMul da db) := de_op op_mulU v2_mul ha hb
theorem de_fdiv (ha : DE X W a da) (hb : DE X W b db) : DE X W (.BinOp a .FloorDiv b pos) (dFdiv da db) := de_op op_fdiv v2_fdiv ha hb
theorem de_mod (ha : DE X W a da) (hb : DE X W b db) : DE X W (.BinOp a .Mod b pos) (dMod da db) := de_op op_mod v2_mod ha hb
theorem de_pow (ha : DE X W a da) (hb : DE X W b db) : DE X W (.BinOp a .Pow b pos) (dPow da db) := de_op op_pow v2_pow ha hb
theorem df_cat (ha : DE X W a da) (hb : DE X W b db) : DF X W (.BinOp a .Add b pos) (d2 gCat da db) := df_op op_cat v2_cat ha hb
theorem df_rep (ha : DE X W a da) (hb : DE X W b db) : DF X W (.BinOp a .Mult b pos) (d2 gRep da db) := df_op op_rep v2_rep ha hb
theorem de_neg (ha : DE X W a da) : DE X W (.UnaryOp .USub a pos) (dNeg da) := DE.of (pe_un un_neg ha) (eo_1 canon_ok v1_neg)
/-! comparisons: by the operator's rule; as values and as tests -/
structure CmpR (X : Cx) (op : CmpOp) (r : R2) (g : PV → PV → Option PV) : Prop where
  op : OpR X (compareOp op) r
  v : V2 X.K r g
  sc : ∀ p q z, g p q = some z → z.sc = true
theorem sc_cmp {f : Int → Int → Bool} : ∀ p q z, gCmpI f p q = some z → z.sc = true := by
  intro p q z e
  unfold gCmpI at e
  split at e
  · cases e; rfl
  · cases e
theorem cr_lt : CmpR X .Lt (rI0 fun i j => .bl (decide (i < j))) gLt := ⟨op_lt, v2_cmp, sc_cmp⟩
theorem cr_le : CmpR X .LtE (rI0 fun i j => .bl (decide (i ≤ j))) gLe := ⟨op_le, v2_cmp, sc_cmp⟩
theorem cr_gt : CmpR X .Gt (rI0 fun i j => .bl (decide (j < i))) gGt := ⟨op_gt, v2_cmp, sc_cmp⟩
theorem cr_ge : CmpR X .GtE (rI0 fun i j => .bl (decide (j ≤ i))) gGe := ⟨op_ge, v2_cmp, sc_cmp⟩
theorem cr_eq (c : Ctx X W k) : CmpR X .Eq (rEqD X.K) gEq := ⟨op_eqD c.hu, v2_eq, by
  intro p q z e
  unfold gEq at e
  split at e
  · cases e; rfl
  · cases e⟩
theorem cr_ne (c : Ctx X W k) : CmpR X .NotEq (rNeD X.K) gNe := ⟨op_neD c.hu, v2_ne, by
  intro p q z e
  unfold gNe at e
  split at e
  · cases e; rfl
  · cases e⟩
theorem gIn_sc {neg : Bool} : ∀ p q z, gIn neg p q = some z → z.sc = true := by
  intro p q z e
  unfold gIn at e
  split at e
  · rename_i x y
    cases h : sgn1 x with
    | none => rw [h] at e; cases e
    | some c => rw [h] at e; cases e; rfl
  · split at e
    · cases e; rfl
    · cases e
  · cases e
theorem cr_in (c : Ctx X W k) : CmpR X .In (rInU X.K) (gIn false) := ⟨OpR.or op_in_sign (op_inD c.hu1), v2_in, gIn_sc⟩
theorem cr_notIn (c : Ctx X W k) : CmpR X .NotIn (rNotInU X.K) (gIn true) := ⟨OpR.or op_notIn_sign (op_notInD c.hu1), v2_notIn, gIn_sc⟩
theorem gIsN_sc {neg : Bool} : ∀ p q z, gIsN neg p q = some z → z.sc = true := by
  intro p q z e
  cases q <;> cases p <;> simp [gIsN] at e <;> subst e <;> rfl
theorem cr_is : CmpR X .Is (fun x y H Q => y = .non ∧ Q (.bl (decide (x = .non))) H) (gIsN false) := ⟨op_isN, v2_isN, gIsN_sc⟩
theorem cr_isNot : CmpR X .IsNot (fun x y H Q => y = .non ∧ Q (.bl (!decide (x = .non))) H) (gIsN true) := ⟨op_notN, v2_notN, gIsN_sc⟩
section
variable {op op' : CmpOp} {r r' : R2} {g g' : PV → PV → Option PV}
theorem de_cmp (h : CmpR X op r g) (ha : DE X W a da) (hb : DE X W b db) (hm : behindInMarks op b = false := by rfl) : DE X W (.Compare a [op] [b] pos) (d2 g da db) := DE.of (pe_cmpR h.op ha hb hm) (eo_2 canon_ok canon_ok h.v)
theorem dt_cmp (h : CmpR X op r g) (ha : DE X W a da) (hb : DE X W b db) (hm : behindInMarks op b = false := by rfl) : DT X W (.Compare a [op] [b] pos) (bVal (d2 g da db)) := DT.of (pt_cmpR h.op ha hb hm) (to_val (eo_2 canon_ok canon_ok h.v))
theorem de_cmpl (h : CmpR X op r g) (i : Nat) (ha : PE X (.Name x p) (tVar i)) (hb : DE X W b db) (hm : behindInMarks op b = false := by rfl) : DE X W (.Compare (.Name x p) [op] [b] pos) (d2l g i db) := DE.of (pe_cmpR h.op ha hb hm) (eo_2l canon_ok h.v h.sc)
theorem dt_cmpl (h : CmpR X op r g) (i : Nat) (ha : PE X (.Name x p) (tVar i)) (hb : DE X W b db) (hm : behindInMarks op b = false := by rfl) : DT X W (.Compare (.Name x p) [op] [b] pos) (bVal (d2l g i db)) := DT.of (pt_cmpR h.op ha hb hm) (to_val (eo_2l canon_ok h.v h.sc))
theorem de_cmpr (h : CmpR X op r g) (i : Nat) (ha : DE X W a da) (hb : PE X (.Name x p) (tVar i)) (hm : behindInMarks op (.Name x p) = false := by rfl) : DE X W (.Compare a [op] [.Name x p] pos) (d2r g da i) := DE.of (pe_cmpR h.op ha hb hm) (eo_2r canon_ok h.v h.sc)
theorem dt_cmpr (h : CmpR X op r g) (i : Nat) (ha : DE X W a da) (hb : PE X (.Name x p) (tVar i)) (hm : behindInMarks op (.Name x p) = false := by rfl) : DT X W (.Compare a [op] [.Name x p] pos) (bVal (d2r g da i)) := DT.of (pt_cmpR h.op ha hb hm) (to_val (eo_2r canon_ok h.v h.sc))
/-- a op b op' c -/
def dChain (g g' : PV → PV → Option PV) (da db dc : Den) : Den := fun ρ => (da ρ).bind fun p ρ1 => (db ρ1).bind fun q ρ2 => match g p q with
  | some (.bl true) => (dc ρ2).bind fun r ρ3 => opt (g' q r) ρ3
  | some (.bl false) => .ok (.bl false) ρ2
  | _ => .bad
theorem eo_chain {K : PySem.W.Frag} {mg : Str → Option Value} {ta tb tc : TE} (hv : V2 K r g) (hv' : V2 K r' g') (ha : EOk K mg W ta da) (hb : EOk K mg W tb db) (hc : EOk K mg W tc dc) : EOk K mg W (tChain r r' ta tb tc) (dChain g g' da db dc) := by
  intro H₀ S₀ M S σ H ρ Q ab hp
  refine ha.bind (Rl' := rV K) ab hp fun p ρ1 v S1 H1 _ a1 _ r1 hp => ?_
  refine hb.bind (Rl' := rV K) a1 hp fun q ρ2 u S2 H2 _ a2 s2 r2 hp => ?_
  cases e : g p q with
  | none => simp only [e] at hp; exact hp.elim
  | some z =>
    cases z with
    | bl t =>
      refine hv S2 H2 v u p q _ _ a2.sub (r1.up s2) r2 e fun v' S3 H3 st rz => ?_
      cases rz
      cases t with
      | false =>
        simp only [e] at hp
        refine ⟨false, rfl, ?_⟩
        rw [if_neg Bool.false_ne_true]
        exact hp _ S3 H3 (a2.step st) (.bl false)
      | true =>
        simp only [e] at hp
        refine ⟨true, rfl, ?_⟩
        rw [if_pos rfl]
        refine hc.bind (Rl' := rV K) (a2.step st) hp fun c ρ3 w S4 H4 _ a4 s4 r4 hp => ?_
        cases e2 : g' q c with
        | none => rw [e2] at hp; exact hp.elim
        | some z =>
          rw [e2] at hp
          exact hv' S4 H4 u w q c z Q a4.sub (r2.up (st.s.trans s4)) r4 e2 fun v5 S5 H5 st5 rz => hp v5 S5 H5 (a4.step st5) rz
    | _ => simp only [e] at hp; exact hp.elim
theorem de_chain {c : Expr} (h : CmpR X op r g) (h' : CmpR X op' r' g') (ha : DE X W a da) (hb : DE X W b db) (hc : DE X W c dc) (hm : lastMarks [op, op'] [b, c] = false := by with_unfolding_all rfl) : DE X W (.Compare a [op, op'] [b, c] pos) (dChain g g' da db dc) :=
  DE.of (pe_chain h.op h'.op ha hb hc hm) (eo_chain h.v h'.v canon_ok canon_ok canon_ok)
theorem dt_chain {c : Expr} (h : CmpR X op r g) (h' : CmpR X op' r' g') (ha : DE X W a da) (hb : DE X W b db) (hc : DE X W c dc) (hm : lastMarks [op, op'] [b, c] = false := by with_unfolding_all rfl) : DT X W (.Compare a [op, op'] [b, c] pos) (bVal (dChain g g' da db dc)) :=
  DT.of (pt_chain h.op h'.op ha hb hc hm) (to_val (eo_chain h.v h'.v canon_ok canon_ok canon_ok))
end
/-! truth, and, or, not, if -/
theorem dt_tru (ha : DE X W a da) (he : ∀ whole, isTrue a X.env whole = (do let v ← whole; standAt a.pos; holding [v] (truthy v)) := by intro _; rfl) : DT X W a (bTru da) := DT.of (pt_truth ha he) (to_tru canon_ok vt_truth)
theorem dt_truv (i : Nat) (ha : PE X (.Name x p) (tVar i)) : DT X W (.Name x p) (bTruV i) := DT.of (pt_truth ha fun _ => rfl) (to_truv vt_truth)
theorem dt_w (h : DW X W a dt) : DT X W a dt := h.pt
theorem dw_and1 (h : DT X W a dt) : DW X W (.BoolOp .And [a] pos) dt := pw_and1 h
theorem dw_or1 (h : DT X W a dt) : DW X W (.BoolOp .Or [a] pos) dt := pw_or1 h
theorem dw_and (h : DT X W a dt) (h2 : DW X W (.BoolOp .And (b :: rest) pos) du) : DW X W (.BoolOp .And (a :: b :: rest) pos) (bAnd dt du) := DW.of (pw_and h h2) (to_and canon_ok canon_ok)
theorem dw_or (h : DT X W a dt) (h2 : DW X W (.BoolOp .Or (b :: rest) pos) du) : DW X W (.BoolOp .Or (a :: b :: rest) pos) (bOr dt du) := DW.of (pw_or h h2) (to_or canon_ok canon_ok)
theorem dt_not (h : DT X W a dt) : DT X W (.UnaryOp .Not a pos) (bNot dt) := DT.of (pt_not h) (to_not canon_ok)
/-- by truth, as values -/
def dAndT (da db : Den) : Den := fun ρ => (da ρ).bind fun p ρ1 => match truth p with
  | none => .bad
  | some b => if b = true then db ρ1 else .ok p ρ1
def dOrT (da db : Den) : Den := fun ρ => (da ρ).bind fun p ρ1 => match truth p with
  | none => .bad
  | some b => if b = true then .ok p ρ1 else db ρ1
def dNotT (da : Den) : Den := fun ρ => (da ρ).bind fun p ρ1 => opt ((truth p).map fun b => .bl (!b)) ρ1
theorem de_oneA (h : DE X W a da) : DE X W (.BoolOp .And [a] pos) da := pe_one h
theorem de_oneO (h : DE X W a da) : DE X W (.BoolOp .Or [a] pos) da := pe_one h
theorem de_and (h : DE X W a da) (h2 : DE X W (.BoolOp .And (b :: rest) pos) db) : DE X W (.BoolOp .And (a :: b :: rest) pos) (dAndT da db) := DE.of (pe_andT h h2) fun H₀ S₀ M S σ H ρ Q ab hp =>
  canon_ok.bind (Rl := rV X.K) (Rl' := rV X.K) ab hp fun p ρ1 v S1 H1 _ a1 _ r1 hp => by
    cases e : truth p with
    | none => simp only [e] at hp; exact hp.elim
    | some t =>
      simp only [e] at hp
      obtain ⟨z, h3, h4⟩ := vt_truth S1 H1 v p t (fun b' H' => b' = t ∧ H' = H1) a1.sub r1 e ⟨rfl, rfl⟩
      obtain ⟨h4, _⟩ := h4
      subst h4
      refine ⟨z, h3, ?_⟩
      cases z with
      | true => exact ⟨H₀, S₀, M, S1, ρ1, a1, hp⟩
      | false => exact hp v S1 H1 a1 r1
theorem de_or (h : DE X W a da) (h2 : DE X W (.BoolOp .Or (b :: rest) pos) db) : DE X W (.BoolOp .Or (a :: b :: rest) pos) (dOrT da db) := DE.of (pe_orT h h2) fun H₀ S₀ M S σ H ρ Q ab hp =>
  canon_ok.bind (Rl := rV X.K) (Rl' := rV X.K) ab hp fun p ρ1 v S1 H1 _ a1 _ r1 hp => by
    cases e : truth p with
    | none => simp only [e] at hp; exact hp.elim
    | some t =>
      simp only [e] at hp
      obtain ⟨z, h3, h4⟩ := vt_truth S1 H1 v p t (fun b' H' => b' = t ∧ H' = H1) a1.sub r1 e ⟨rfl, rfl⟩
      obtain ⟨h4, _⟩ := h4
      subst h4
      refine ⟨z, h3, ?_⟩
      cases z with
      | false => exact ⟨H₀, S₀, M, S1, ρ1, a1, hp⟩
      | true => exact hp v S1 H1 a1 r1
theorem de_not (h : DE X W a da) : DE X W (.UnaryOp .Not a pos) (dNotT da) := DE.of (pe_notT h) fun H₀ S₀ M S σ H ρ Q ab hp =>
  canon_ok.bind (Rl := rV X.K) (Rl' := rV X.K) ab hp fun p ρ1 v S1 H1 _ a1 _ r1 hp => by
    cases e : truth p with
    | none => rw [e] at hp; exact hp.elim
    | some t =>
      rw [e] at hp
      obtain ⟨z, h3, h4⟩ := vt_truth S1 H1 v p t (fun b' H' => b' = t ∧ H' = H1) a1.sub r1 e ⟨rfl, rfl⟩
      obtain ⟨h4, _⟩ := h4
      subst h4
      exact ⟨z, h3, hp _ S1 H1 a1 (.bl _)⟩
theorem de_if {c : Expr} (hc : DT X W c dt) (ha : DE X W a da) (hb : DE X W b db) : DE X W (.IfExp c a b pos) (dIf dt da db) := DE.of (pe_ifExp hc ha hb) (eo_if canon_ok canon_ok canon_ok)
/-! arguments, displays -/
theorem da_nil : DA X W [] dNil := DA.of pa_nil ao_nil
theorem da_cons (ha : DE X W e da) (hr : DA X W es dl) (hs : starEach (e :: es) X.env = (false, eval e X.env) :: starEach es X.env := by rfl) : DA X W (e :: es) (dCons da dl) := DA.of (pa_cons ha hr hs) (ao_cons canon_ok canon_ok)
def dLst (dl : DenL) : Den := fun ρ => (dl ρ).bind fun ps ρ1 => if ps.length ≤ sizeLine then .ok (.lst ps) ρ1 else .bad
def dTup (dl : DenL) : Den := fun ρ => (dl ρ).bind fun ps ρ1 => if ps.length ≤ sizeLine then .ok (.tup ps) ρ1 else .bad
theorem df_lst (h : DA X W es dl) : DF X W (.List es pos) (dLst dl) := DF.of (pe_lst h) fun H₀ S₀ M S σ H ρ Q ab hp =>
  canon_ok.bind (Rl' := rF X.K) ab hp fun ps ρ1 vs S1 H1 _ a1 _ r1 hp => by
    split at hp
    · rename_i hz
      have r1 : RepL X.K S1 ps vs := r1
      refine ⟨by rw [← r1.length]; exact hz, fun c n => hp _ S1 _ (a1.fresh n (p := .lst ps) (o := .lst vs) r1).1 (a1.fresh n (p := .lst ps) (o := .lst vs) r1).2⟩
    · exact hp.elim
theorem de_tup {j : Nat} (h : DA X W es dl) : DE X W (.Tuple es j pos) (dTup dl) := DE.of (pe_tup h) fun H₀ S₀ M S σ H ρ Q ab hp =>
  canon_ok.bind (Rl' := rV X.K) ab hp fun ps ρ1 vs S1 H1 _ a1 _ r1 hp => by
    split at hp
    · rename_i hz
      have r1 : RepL X.K S1 ps vs := r1
      refine ⟨by rw [← r1.length]; exact hz, fun c n => hp _ (upd S1 c (.tup vs)) _ (a1.step (Step.new1 a1.sub n)) (.tup upd_same (r1.up (same_upd (Same.free a1.sub n))))⟩
    · exact hp.elim
/-! subscripts and slices -/
theorem de_ix (ha : DE X W a da) (hb : DE X W b db) (hs : PlainIx b := by intro _ _; rfl) : DE X W (.Subscript a b pos) (d2 gIx da db) := DE.of (pe_ix ix_seq ha hb hs) (eo_2 canon_ok canon_ok v2_ix)
theorem de_ixv (i : Nat) (ha : PE X (.Name x p) (tVar i)) (hb : DE X W b db) (hs : PlainIx b := by intro _ _; rfl) : DE X W (.Subscript (.Name x p) b pos) (d2l gIx i db) := DE.of (pe_ix ix_seq ha hb hs) (eo_ixv canon_ok)
theorem do_none : DO X W none oNone := DO.of po_none oo_none
theorem do_some (h : DE X W e da) : DO X W (some e) (oSome da) := DO.of (po_some h) (oo_some canon_ok)
theorem de_sl {lo hi : Option Expr} {dlo dhi : DenO} (ha : DE X W a da) (hl : DO X W lo dlo) (hh : DO X W hi dhi) : DE X W (.Subscript a (.Slice lo hi none p2) pos) (dSl gSl da dlo dhi) := DE.of (pe_slice sl_U ha hl hh) (eo_sl canon_ok canon_ok canon_ok vs_U)
theorem df_sl {lo hi : Option Expr} {dlo dhi : DenO} (ha : DE X W a da) (hl : DO X W lo dlo) (hh : DO X W hi dhi) : DF X W (.Subscript a (.Slice lo hi none p2) pos) (dSl gSlL da dlo dhi) := DF.of (pe_slice sl_list ha hl hh) (fo_sl canon_ok canon_ok canon_ok vsf_list)
theorem df_slv {lo hi : Option Expr} {dlo dhi : DenO} (i : Nat) (ha : PE X (.Name x p) (tVar i)) (hl : DO X W lo dlo) (hh : DO X W hi dhi) : DF X W (.Subscript (.Name x p) (.Slice lo hi none p2) pos) (dSlv gSlL i dlo dhi) := DF.of (pe_slice sl_list ha hl hh) (fo_slv canon_ok canon_ok)
/-! built-in functions -/
theorem de_b {id : String} {r : List V → Hp → VK → Prop} {g : List PV → Option PV} (hc : CallR X (.builtin id) r) (hv : VN X.K r g) (hm : X.mg x = none) (hb : bootBuiltins x = some (.builtin id)) (ha : DA X W (e :: es) dl) (hg : Gl X x := by rfl) (hn : x ≠ "__name__" := by decide) (hdb : (x == ("__debug__" : Str)) = false := by decide)
    (he : starEach (e :: es) X.env = (false, eval e X.env) :: starEach es X.env := by rfl) (hpl : (backTo pos (starEach es X.env)).any (·.1) = false := by rfl) : DE X W (.Call (.Name x p) (e :: es) [] pos) (dN g dl) := DE.of (pe_callB hc hg hm hb ha hn hdb he hpl) (eo_n canon_ok hv)
theorem de_bty {T : String} {r : List V → Hp → VK → Prop} {g : List PV → Option PV} (hc : CallR X (.type T) r) (hv : VN X.K r g) (hm : X.mg x = none) (hb : bootBuiltins x = some (.type T)) (ha : DA X W (e :: es) dl) (hg : Gl X x := by rfl) (hn : x ≠ "__name__" := by decide) (hdb : (x == ("__debug__" : Str)) = false := by decide)
    (he : starEach (e :: es) X.env = (false, eval e X.env) :: starEach es X.env := by rfl) (hpl : (backTo pos (starEach es X.env)).any (·.1) = false := by rfl) : DE X W (.Call (.Name x p) (e :: es) [] pos) (dN g dl) := DE.of (pe_callTy hc hg hm hb ha hn hdb he hpl) (eo_n canon_ok hv)
theorem de_lenv (B : Bi X.mg) (i : Nat) (ha : PE X (.Name x p2) (tVar i)) (hg : Gl X "len" := by rfl) (he : starEach [.Name x p2] X.env = (false, eval (.Name x p2) X.env) :: starEach [] X.env := by rfl) (hs : starEach ([] : List Expr) X.env = [] := by rfl) (hpl : (backTo pos (starEach [] X.env)).any (·.1) = false := by rfl) :
    DE X W (.Call (.Name "len" p) [.Name x p2] [] pos) (d1v gLen i) := DE.of (pe_callB call_len hg B.len PySem.boot_len (pa_cons ha pa_nil he) (by decide) (by decide) he hpl) (eo_nv vn_len len_sc)
theorem de_len (B : Bi X.mg) (ha : DA X W (e :: es) dl) (hg : Gl X "len" := by rfl) (he : starEach (e :: es) X.env = (false, eval e X.env) :: starEach es X.env := by rfl) (hpl : (backTo pos (starEach es X.env)).any (·.1) = false := by rfl) :
    DE X W (.Call (.Name "len" p) (e :: es) [] pos) (dN gLenN dl) := de_b call_len vn_len B.len PySem.boot_len ha hg (by decide) (by decide) he hpl
theorem de_abs (B : Bi X.mg) (ha : DA X W (e :: es) dl) (hg : Gl X "abs" := by rfl) (he : starEach (e :: es) X.env = (false, eval e X.env) :: starEach es X.env := by rfl) (hpl : (backTo pos (starEach es X.env)).any (·.1) = false := by rfl) :
    DE X W (.Call (.Name "abs" p) (e :: es) [] pos) (dN gAbs dl) := de_b call_abs vn_abs B.abs (by decide +kernel) ha hg (by decide) (by decide) he hpl
theorem de_max2 (c : Ctx X W k) (B : Bi X.mg) (ha : DA X W (e :: es) dl) (hg : Gl X "max" := by rfl) (he : starEach (e :: es) X.env = (false, eval e X.env) :: starEach es X.env := by rfl) (hpl : (backTo pos (starEach es X.env)).any (·.1) = false := by rfl) :
    DE X W (.Call (.Name "max" p) (e :: es) [] pos) (dN gMax2 dl) := de_b (call_max2 c.calm) vn_max2 B.max (by decide +kernel) ha hg (by decide) (by decide) he hpl
theorem de_min2 (c : Ctx X W k) (B : Bi X.mg) (ha : DA X W (e :: es) dl) (hg : Gl X "min" := by rfl) (he : starEach (e :: es) X.env = (false, eval e X.env) :: starEach es X.env := by rfl) (hpl : (backTo pos (starEach es X.env)).any (·.1) = false := by rfl) :
    DE X W (.Call (.Name "min" p) (e :: es) [] pos) (dN gMin2 dl) := de_b (call_min2 c.calm) vn_min2 B.min (by decide +kernel) ha hg (by decide) (by decide) he hpl
theorem de_sum (c : Ctx X W k) (B : Bi X.mg) (ha : DA X W (e :: es) dl) (hg : Gl X "sum" := by rfl) (he : starEach (e :: es) X.env = (false, eval e X.env) :: starEach es X.env := by rfl) (hpl : (backTo pos (starEach es X.env)).any (·.1) = false := by rfl) :
    DE X W (.Call (.Name "sum" p) (e :: es) [] pos) (dN gSumN dl) := de_b (cr_sum c.calm) vn_sum B.sum (by decide +kernel) ha hg (by decide) (by decide) he hpl
theorem de_toint (B : Bi X.mg) (ha : DA X W (e :: es) dl) (hg : Gl X "int" := by rfl) (he : starEach (e :: es) X.env = (false, eval e X.env) :: starEach es X.env := by rfl) (hpl : (backTo pos (starEach es X.env)).any (·.1) = false := by rfl) :
    DE X W (.Call (.Name "int" p) (e :: es) [] pos) (dN gInt dl) := de_bty call_intU vn_int B.int (by decide +kernel) ha hg (by decide) (by decide) he hpl
/-! what changes a list -/
theorem de_append (i : Nat) (ho : PE X (.Name x np) (tVar i)) (ha : DA X W (e :: es) dl) (hbase : attributeBase (.Name x np) "append" X.env (eval (.Name x np) X.env) = eval (.Name x np) X.env := by rfl)
    (hfew : ((backTo cpos (starEach (e :: es) X.env)).all (fun x => !x.1) && (backToKw cpos (keywordEach [] X.env)).all (fun x => x.1.isSome) && decide ((e :: es).length + ([] : List Keyword).length + (if ([] : List Keyword).isEmpty then 0 else 1) < 30)) = true := by rfl)
    (hline : (apos.endLine == cpos.line) = true := by rfl) (hs : starEach (e :: es) X.env = (false, eval e X.env) :: starEach es X.env := by rfl) (hplain : (backTo cpos (starEach es X.env)).any (·.1) = false := by rfl) :
    DE X W (.Call (.Attribute (.Name x np) "append" apos) (e :: es) [] cpos) (dMut "list" gAppend i dl) :=
  DE.of (pe_bm PySem.F.plainAttrs_list PySem.F.slot_list_append PySem.F.type_list_append mt_append ho ha hbase hfew hline hs hplain) (eo_mut canon_ok mu_append)
theorem de_extend (i : Nat) (ho : PE X (.Name x np) (tVar i)) (ha : DA X W (e :: es) dl) (hbase : attributeBase (.Name x np) "extend" X.env (eval (.Name x np) X.env) = eval (.Name x np) X.env := by rfl)
    (hfew : ((backTo cpos (starEach (e :: es) X.env)).all (fun x => !x.1) && (backToKw cpos (keywordEach [] X.env)).all (fun x => x.1.isSome) && decide ((e :: es).length + ([] : List Keyword).length + (if ([] : List Keyword).isEmpty then 0 else 1) < 30)) = true := by rfl)
    (hline : (apos.endLine == cpos.line) = true := by rfl) (hs : starEach (e :: es) X.env = (false, eval e X.env) :: starEach es X.env := by rfl) (hplain : (backTo cpos (starEach es X.env)).any (·.1) = false := by rfl) :
    DE X W (.Call (.Attribute (.Name x np) "extend" apos) (e :: es) [] cpos) (dMut "list" gExtend i dl) :=
  DE.of (pe_bm PySem.F.plainAttrs_list PySem.F.slot_list_extend PySem.F.type_list_extend mt_extend ho ha hbase hfew hline hs hplain) (eo_mut canon_ok mu_extend)
theorem de_popAt (i : Nat) (ho : PE X (.Name x np) (tVar i)) (ha : DA X W (e :: es) dl) (hbase : attributeBase (.Name x np) "pop" X.env (eval (.Name x np) X.env) = eval (.Name x np) X.env := by rfl)
    (hfew : ((backTo cpos (starEach (e :: es) X.env)).all (fun x => !x.1) && (backToKw cpos (keywordEach [] X.env)).all (fun x => x.1.isSome) && decide ((e :: es).length + ([] : List Keyword).length + (if ([] : List Keyword).isEmpty then 0 else 1) < 30)) = true := by rfl)
    (hline : (apos.endLine == cpos.line) = true := by rfl) (hs : starEach (e :: es) X.env = (false, eval e X.env) :: starEach es X.env := by rfl) (hplain : (backTo cpos (starEach es X.env)).any (·.1) = false := by rfl) :
    DE X W (.Call (.Attribute (.Name x np) "pop" apos) (e :: es) [] cpos) (dMut "list" gPopAt i dl) :=
  DE.of (pe_bm PySem.F.plainAttrs_list PySem.F.slot_list_pop PySem.F.type_list_pop mt_popAt ho ha hbase hfew hline hs hplain) (eo_mut canon_ok mu_popAt)
theorem de_pop (i : Nat) (ho : PE X (.Name x np) (tVar i)) (hbase : attributeBase (.Name x np) "pop" X.env (eval (.Name x np) X.env) = eval (.Name x np) X.env := by rfl) (hline : (apos.endLine == cpos.line) = true := by rfl) :
    DE X W (.Call (.Attribute (.Name x np) "pop" apos) [] [] cpos) (dMut0 "list" gPop i) :=
  DE.of (pe_bm0 PySem.F.plainAttrs_list PySem.F.slot_list_pop PySem.F.type_list_pop mt_pop ho hbase hline) (eo_mut0 mu_pop)
theorem de_reverse (i : Nat) (ho : PE X (.Name x np) (tVar i)) (hbase : attributeBase (.Name x np) "reverse" X.env (eval (.Name x np) X.env) = eval (.Name x np) X.env := by rfl) (hline : (apos.endLine == cpos.line) = true := by rfl) :
    DE X W (.Call (.Attribute (.Name x np) "reverse" apos) [] [] cpos) (dMut0 "list" gReverse i) :=
  DE.of (pe_bm0 PySem.F.plainAttrs_list PySem.F.slot_list_reverse PySem.F.type_list_reverse mt_reverse ho hbase hline) (eo_mut0 mu_reverse)
end

/-! ### defs called by name -/
structure Fd (P : Program) (w : World) (K : PySem.W.Frag) (mg : Str → Option Value) (base : Heap) (x : Str) (k : Nat) (io fr : Bool) (n : Nat) (F : List PV → FR) : Prop where
  ex : ∃ (f : Addr) (fd : FuncData) (ps : List Str), FnOk P w K mg base (L2.CX P w) k f fd ps (spD K mg io fr n F) ∧ mg x = some (.ref f) ∧ PySem.W.keepIn K (.ref f) = true ∧ Binds K fd ps []
  len : ∀ ps, F ps ≠ .bad → ps.length = n
section
variable {X : Cx} {W : WX} {fr : Bool} {j k : Nat} {pos p p2 : Pos} {e : Expr} {es : List Expr} {dl : DenL} {x y : Str} {n : Nat} {F : List PV → FR}
theorem de_call (G : Fd X.prog X.w X.K X.mg X.base x j false false n F) (c : Ctx X W k) (ha : DA X W (e :: es) dl) (hj : j ≤ k := by decide) (hg : Gl X x := by rfl) (hdb : (x == ("__debug__" : Str)) = false := by decide)
    (he : starEach (e :: es) X.env = (false, eval e X.env) :: starEach es X.env := by rfl) (hpl : (backTo pos (starEach es X.env)).any (·.1) = false := by rfl) : DE X W (.Call (.Name x p) (e :: es) [] pos) (dCall F dl) := by
  obtain ⟨f, fd, ps, h1, h2, h3, h4⟩ := G.ex
  exact DE.of (pe_callS h1 (c.room.mono hj) hg h2 h3 h4 (fun σ => passAt c.tk σ) ha hdb he hpl) (eo_call canon_ok G.len)
theorem df_call (G : Fd X.prog X.w X.K X.mg X.base x j false true n F) (c : Ctx X W k) (ha : DA X W (e :: es) dl) (hj : j ≤ k := by decide) (hg : Gl X x := by rfl) (hdb : (x == ("__debug__" : Str)) = false := by decide)
    (he : starEach (e :: es) X.env = (false, eval e X.env) :: starEach es X.env := by rfl) (hpl : (backTo pos (starEach es X.env)).any (·.1) = false := by rfl) : DF X W (.Call (.Name x p) (e :: es) [] pos) (dCall F dl) := by
  obtain ⟨f, fd, ps, h1, h2, h3, h4⟩ := G.ex
  exact DF.of (pe_callS h1 (c.room.mono hj) hg h2 h3 h4 (fun σ => passAt c.tk σ) ha hdb he hpl) (fo_call canon_ok G.len)
theorem de_callIo (G : Fd X.prog X.w X.K X.mg X.base x j true false n F) (c : Ctx X W k) (i : Nat) (ho : PE X (.Name y p2) (tVar i)) (ha : DA X W es dl) (hj : j ≤ k := by decide) (hg : Gl X x := by rfl) (hdb : (x == ("__debug__" : Str)) = false := by decide)
    (he : starEach (.Name y p2 :: es) X.env = (false, eval (.Name y p2) X.env) :: starEach es X.env := by rfl) (hpl : (backTo pos (starEach es X.env)).any (·.1) = false := by rfl) : DE X W (.Call (.Name x p) (.Name y p2 :: es) [] pos) (dCallIo F i dl) := by
  obtain ⟨f, fd, ps, h1, h2, h3, h4⟩ := G.ex
  exact DE.of (pe_callS h1 (c.room.mono hj) hg h2 h3 h4 (fun σ => passAt c.tk σ) (pa_cons ho ha he) hdb he hpl) (eo_callIo canon_ok G.len)
theorem df_callIo (G : Fd X.prog X.w X.K X.mg X.base x j true true n F) (c : Ctx X W k) (i : Nat) (ho : PE X (.Name y p2) (tVar i)) (ha : DA X W es dl) (hj : j ≤ k := by decide) (hg : Gl X x := by rfl) (hdb : (x == ("__debug__" : Str)) = false := by decide)
    (he : starEach (.Name y p2 :: es) X.env = (false, eval (.Name y p2) X.env) :: starEach es X.env := by rfl) (hpl : (backTo pos (starEach es X.env)).any (·.1) = false := by rfl) : DF X W (.Call (.Name x p) (.Name y p2 :: es) [] pos) (dCallIo F i dl) := by
  obtain ⟨f, fd, ps, h1, h2, h3, h4⟩ := G.ex
  exact DF.of (pe_callS h1 (c.room.mono hj) hg h2 h3 h4 (fun σ => passAt c.tk σ) (pa_cons ho ha he) hdb he hpl) (fo_callIo canon_ok G.len)
end
end PL

set_option Elab.async false
set_option linter.all false
set_option maxRecDepth 100000
set_option maxHeartbeats 4000000
namespace PL
open PySem PySem.Spec L2
set_option autoImplicit false

/-! ### what is walked -/
section
variable {K : PySem.W.Frag} {S H : Hp}
theorem itr_list {a : Addr} {vs : List V} {ps : List PV} (s : Same S H) (h : S a = some (.lst vs)) (r : RepL K S ps vs) : ItR K S H ps (Itl K a) := fun i S1 H1 s1 s2 => by
  have hl : SqL K H1 a vs := .inl (.inl (s2 _ _ (s1 _ _ h)))
  refine ⟨fun hi => ⟨vs, hl, by rw [← r.length]; exact hi⟩, fun p e => ?_⟩
  obtain ⟨v, h1, h2⟩ := r.get e
  refine ⟨⟨vs, v, hl, h1⟩, fun x H2 y => ?_⟩
  obtain ⟨e1, y⟩ := y
  subst e1
  have e2 := y vs hl
  rw [h1] at e2
  cases e2
  exact ⟨S1, Step.refl s2, h2.up s1⟩
theorem itr_tup {a : Addr} {vs : List V} {ps : List PV} (s : Same S H) (h : SqT K S a vs) (r : RepL K S ps vs) : ItR K S H ps (Itt K a) := fun i S1 H1 s1 s2 => by
  have hl : SqT K H1 a vs := Same.tupK s2 (Same.tupK s1 h)
  refine ⟨fun hi => ⟨vs, hl, by rw [← r.length]; exact hi⟩, fun p e => ?_⟩
  obtain ⟨v, h1, h2⟩ := r.get e
  refine ⟨⟨vs, v, hl, h1⟩, fun x H2 y => ?_⟩
  obtain ⟨e1, y⟩ := y
  subst e1
  have e2 := y vs hl
  rw [h1] at e2
  cases e2
  exact ⟨S1, Step.refl s2, h2.up s1⟩
def signs (x : Str) : List PV := x.cps.toList.map fun c => .str ⟨#[c]⟩
theorem itr_str {x : Str} : ItR K S H (signs x) (Its x) := fun i S1 H1 s1 s2 => by
  refine ⟨fun hi => ?_, fun p e => ?_⟩
  · have hi : (x.cps.toList.map fun c => (PV.str ⟨#[c]⟩)).length ≤ i := hi
    rw [List.length_map, Array.length_toList] at hi
    exact hi
  · have e : (x.cps.toList.map fun c => (PV.str ⟨#[c]⟩))[i]? = some p := e
    rw [List.getElem?_map] at e
    cases h : x.cps.toList[i]? with
    | none => rw [h] at e; cases e
    | some c =>
      rw [h] at e
      cases e
      have hi : i < x.cps.size := by
        have z := (List.getElem?_eq_some_iff.mp h).1
        rw [Array.length_toList] at z
        exact z
      refine ⟨hi, fun v H2 y => ?_⟩
      obtain ⟨e1, d, h1, h2⟩ := y
      subst e1
      have h3 : x.cps[i]? = some c := by rw [← Array.getElem?_toList]; exact h
      rw [h3] at h1
      cases h1
      subst h2
      exact ⟨S1, Step.refl s2, .str _⟩
def rangeP (lo : Int) (n : Nat) : List PV := (List.range n).map fun (i : Nat) => .int (lo + (i : Int))
theorem itr_range {lo : Int} {n : Nat} : ItR K S H (rangeP lo n) (Itr lo n) := fun i S1 H1 s1 s2 => by
  refine ⟨fun hi => ?_, fun p e => ?_⟩
  · unfold rangeP at hi
    rw [List.length_map, List.length_range] at hi
    exact hi
  · unfold rangeP at e
    rw [List.getElem?_map] at e
    cases h : (List.range n)[i]? with
    | none => rw [h] at e; cases e
    | some c =>
      rw [h] at e
      cases e
      have hi : i < n := by
        have z := (List.getElem?_eq_some_iff.mp h).1
        rwa [List.length_range] at z
      rw [List.getElem?_range hi] at h
      cases h
      refine ⟨hi, fun v H2 y => ?_⟩
      obtain ⟨e1, h2⟩ := y
      subst e1
      subst h2
      exact ⟨S1, Step.refl s2, .int _⟩
def rangeC (lo c : Int) (n : Nat) : List PV := (List.range n).map fun (i : Nat) => .int (lo + (i : Int) * c)
theorem itr_rangeC {lo c : Int} {n : Nat} : ItR K S H (rangeC lo c n) (Itc lo c n) := fun i S1 H1 s1 s2 => by
  refine ⟨fun hi => ?_, fun p e => ?_⟩
  · unfold rangeC at hi
    rw [List.length_map, List.length_range] at hi
    exact hi
  · unfold rangeC at e
    rw [List.getElem?_map] at e
    cases h : (List.range n)[i]? with
    | none => rw [h] at e; cases e
    | some j =>
      rw [h] at e
      cases e
      have hi : i < n := by
        have z := (List.getElem?_eq_some_iff.mp h).1
        rwa [List.length_range] at z
      rw [List.getElem?_range hi] at h
      cases h
      refine ⟨hi, fun v H2 y => ?_⟩
      obtain ⟨e1, h2⟩ := y
      subst e1
      subst h2
      exact ⟨S1, Step.refl s2, .int _⟩
def enumP (i : Int) : List PV → List PV
  | [] => []
  | p :: ps => .tup [.int i, p] :: enumP (i + 1) ps
theorem enumP_get : ∀ (ps : List PV) (i : Int) (n : Nat), (enumP i ps)[n]? = (ps[n]?).map fun p => .tup [.int (i + n), p]
  | [], i, n => by simp [enumP]
  | p :: ps, i, 0 => by simp [enumP]
  | p :: ps, i, n + 1 => by
    simp only [enumP, List.getElem?_cons_succ]
    rw [enumP_get ps (i + 1) n]
    cases ps[n]? with
    | none => rfl
    | some q =>
      show some (PV.tup [.int (i + 1 + n), q]) = some (PV.tup [.int (i + ((n + 1 : Nat) : Int)), q])
      rw [show i + 1 + (n : Int) = i + ((n + 1 : Nat) : Int) by omega]
theorem enumP_length : ∀ (ps : List PV) (i : Int), (enumP i ps).length = ps.length
  | [], _ => rfl
  | p :: ps, i => by simp [enumP, enumP_length ps]
theorem itr_enum {a : Addr} {vs : List V} {ps : List PV} (s : Same S H) (h : S a = some (.lst vs)) (r : RepL K S ps vs) : ItR K S H (enumP 0 ps) (Ite K a) := fun i S1 H1 s1 s2 => by
  have hl : SqL K H1 a vs := .inl (.inl (s2 _ _ (s1 _ _ h)))
  refine ⟨fun hi => ⟨vs, hl, by rw [enumP_length] at hi; rw [← r.length]; exact hi⟩, fun p e => ?_⟩
  rw [enumP_get] at e
  cases e1 : ps[i]? with
  | none => rw [e1] at e; cases e
  | some q =>
    rw [e1] at e
    cases e
    obtain ⟨v, h1, h2⟩ := r.get e1
    refine ⟨⟨vs, v, hl, h1⟩, fun x H2 y => ?_⟩
    obtain ⟨T, x', rfl, hT, rfl, y⟩ := y
    have e2 := y vs hl
    rw [h1] at e2
    cases e2
    refine ⟨upd S1 T (.tup [.int (i : Nat), v]), Step.new1 s2 hT, .tup upd_same ?_⟩
    refine .cons ?_ (.cons ((h2.up s1).up (same_upd (Same.free s2 hT))) .nil)
    rw [Int.zero_add]
    exact .int _
theorem itr_zip {a b : Addr} {vs us : List V} {ps qs : List PV} (s : Same S H) (h : S a = some (.lst vs)) (r : RepL K S ps vs) (h' : S b = some (.lst us)) (r' : RepL K S qs us) : ItR K S H (List.zipWith (fun p q => .tup [p, q]) ps qs) (Itz K a b) := fun i S1 H1 s1 s2 => by
  have hl : SqL K H1 a vs := .inl (.inl (s2 _ _ (s1 _ _ h)))
  have hl' : SqL K H1 b us := .inl (.inl (s2 _ _ (s1 _ _ h')))
  refine ⟨fun hi => ⟨vs, us, hl, hl', ?_⟩, fun p e => ?_⟩
  · rw [List.length_zipWith, r.length, r'.length] at hi
    omega
  · rw [List.getElem?_zipWith] at e
    cases e1 : ps[i]? with
    | none => rw [e1] at e; cases e
    | some q =>
      cases e2 : qs[i]? with
      | none => rw [e1, e2] at e; cases e
      | some q' =>
        rw [e1, e2] at e
        cases e
        obtain ⟨v, h1, h2⟩ := r.get e1
        obtain ⟨u, h3, h4⟩ := r'.get e2
        refine ⟨⟨vs, us, v, u, hl, hl', h1, h3⟩, fun x H2 y => ?_⟩
        obtain ⟨T, x', y', rfl, hT, rfl, y1, y2⟩ := y
        have z1 := y1 vs hl
        rw [h1] at z1
        cases z1
        have z2 := y2 us hl'
        rw [h3] at z2
        cases z2
        exact ⟨upd S1 T (.tup [v, u]), Step.new1 s2 hT, .tup upd_same (.cons ((h2.up s1).up (same_upd (Same.free s2 hT))) (.cons ((h4.up s1).up (same_upd (Same.free s2 hT))) .nil))⟩
theorem itr_rev {a : Addr} {vs : List V} {ps : List PV} (s : Same S H) (h : S a = some (.lst vs)) (r : RepL K S ps vs) : ItR K S H ps.reverse (Itv K a vs.length) := fun i S1 H1 s1 s2 => by
  have hl : SqL K H1 a vs := .inl (.inl (s2 _ _ (s1 _ _ h)))
  refine ⟨fun hi => by rw [List.length_reverse, r.length] at hi; exact hi, fun p e => ?_⟩
  have hi : i < ps.reverse.length := (List.getElem?_eq_some_iff.mp e).1
  rw [List.length_reverse, r.length] at hi
  have e0 : ps[ps.length - 1 - i]? = some p := by
    rw [List.getElem?_reverse (by rw [r.length]; exact hi)] at e
    exact e
  obtain ⟨v, h1, h2⟩ := r.get e0
  rw [r.length] at h1
  refine ⟨⟨hi, vs, v, hl, h1⟩, fun x H2 y => ?_⟩
  obtain ⟨e1, y⟩ := y
  subst e1
  have e2 := y vs hl
  rw [h1] at e2
  cases e2
  exact ⟨S1, Step.refl s2, h2.up s1⟩
end
def seqOf : PV → Option (List PV)
  | .lst ps => some ps
  | .tup ps => some ps
  | .ktup ps => some ps
  | .str x => some (signs x)
  | _ => none
def iSeq (da : Den) : DenL := fun ρ => (da ρ).bind fun p ρ1 => opt (seqOf p) ρ1
def iR1 (dl : DenL) : DenL := fun ρ => (dl ρ).bind fun ps ρ1 => match ps with
  | [.int j] => if decide (-(2 ^ 62) ≤ j) && decide (j < 2 ^ 62) then .ok (rangeP 0 j.toNat) ρ1 else .bad
  | _ => .bad
def iR2 (dl : DenL) : DenL := fun ρ => (dl ρ).bind fun ps ρ1 => match ps with
  | [.int i, .int j] => if (decide (-(2 ^ 62) ≤ i) && decide (i < 2 ^ 62)) && (decide (-(2 ^ 62) ≤ j) && decide (j < 2 ^ 62)) then .ok (rangeP i (j - i).toNat) ρ1 else .bad
  | _ => .bad
def iEnu (dl : DenL) : DenL := fun ρ => (dl ρ).bind fun ps ρ1 => match ps with
  | [.lst qs] => .ok (enumP 0 qs) ρ1
  | _ => .bad
def iZp (dl : DenL) : DenL := fun ρ => (dl ρ).bind fun ps ρ1 => match ps with
  | [.lst qs, .lst rs] => .ok (List.zipWith (fun p q => .tup [p, q]) qs rs) ρ1
  | _ => .bad
def iRv (dl : DenL) : DenL := fun ρ => (dl ρ).bind fun ps ρ1 => match ps with
  | [.lst qs] => .ok qs.reverse ρ1
  | _ => .bad
/-- range(i, j, c) with a written step -/
def rgN (i j c : Int) : Option Nat := if c = 0 then none else if decide (c.natAbs < 1073741824) && Builtin.Range.small i j c then some (Builtin.Range.rangeSize i j c).toNat else none
def iR3 (dl : DenL) : DenL := fun ρ => (dl ρ).bind fun ps ρ1 => match ps with
  | [.int i, .int j, .int c] => if c = 2 ∨ c = -1 then (if decide (-(2 ^ 60) ≤ i) && decide (i < 2 ^ 60) && (decide (-(2 ^ 60) ≤ j) && decide (j < 2 ^ 60)) then .ok (rangeC i c (if c = 2 then ((j - i + 1) / 2).toNat else (i - j).toNat)) ρ1 else .bad) else .bad
  | _ => .bad
section
variable {X : Cx} {W : WX} {fr : Bool} {k : Nat} {pos p p2 tpos : Pos} {e a b c : Expr} {es elts : List Expr} {da : Den} {dl : DenL} {x : Str} {tg : Expr} {kk : Nat}
theorem di_seq (he : DE X W e da) : DI X W tg e (iSeq da) := by
  refine ⟨fun pins s σ H R I h => ?_⟩
  obtain ⟨H₀, S₀, M, S, ρ, ab, hp⟩ := h
  have h1 : canon X.K X.mg W (rV X.K) da σ H fun v H1 => ∃ (S1 : Hp) (ρ1 : Env) (q : PV) (ps : List PV), Abs X.K H₀ S₀ M S1 σ H1 ρ1 ∧ Rep X.K S1 q v ∧ seqOf q = some ps ∧ ∀ J, ItR X.K S1 H1 ps J → R J H1 :=
    XOk.bind (Rl' := rIt X.K) canon_ok ab hp fun q ρ1 v S1 H1 _ a1 _ r1 hp => by
      cases e1 : seqOf q with
      | none => rw [e1] at hp; exact hp.elim
      | some ps =>
        rw [e1] at hp
        exact ⟨S1, ρ1, q, ps, a1, r1, e1, fun J j => hp J S1 H1 a1 j⟩
  refine thn (he.run pins s σ H _ I h1) fun v s1 ⟨y, H1, I1, r1, S1, ρ1, q, ps, a1, rq, e1, hR⟩ => ?_
  cases q with
  | lst qs =>
    cases e1
    cases rq with
    | lst h2 h3 =>
      cases r1
      obtain ⟨its, rv, pl, hz⟩ := I1.list (.inl (.inl (a1.sub _ _ h2)))
      refine PySem.wpAny_pyIter_list pl.isList ?_
      refine ⟨s1.heap.objs.size, [s1.heap.objs.size], _, _, H1, rfl, I1.kept (t' := s1.toks) fun b o e => Heap.get?_push_of_some _ e, turn_list _ _, ⟨_, Heap.get?_push_size _ rfl, rfl, rfl⟩, fun b hb => ?_, hR _ (itr_list a1.sub h2 h3)⟩
      have e : b = s1.heap.objs.size := by simpa using hb
      subst e
      exact I1.fpOk (Nat.le_refl _) (I1.hok.fresh (Nat.le_refl _))
  | tup qs =>
    cases e1
    cases rq with
    | tup h2 h3 =>
      cases r1
      obtain ⟨its, rv, pl, hz⟩ := I1.tuple (.inl (.inl (a1.sub _ _ h2)))
      refine PySem.wpAny_pyIter_tuple (show s1.heap.IsTuple _ its.toArray from pl) ?_
      refine ⟨s1.heap.objs.size, [s1.heap.objs.size], _, _, H1, rfl, I1.kept (t' := s1.toks) fun b o e => Heap.get?_push_of_some _ e, turn_tuple _ _, ⟨_, Heap.get?_push_size _ rfl, rfl, rfl⟩, fun b hb => ?_, hR _ (itr_tup a1.sub (.inl (.inl h2)) h3)⟩
      have e : b = s1.heap.objs.size := by simpa using hb
      subst e
      exact I1.fpOk (Nat.le_refl _) (I1.hok.fresh (Nat.le_refl _))
  | ktup qs =>
    cases e1
    cases rq with
    | ktup h2 h3 =>
      cases r1
      obtain ⟨its, rv, pl, hz⟩ := I1.tuple (Same.tupK a1.sub h2)
      refine PySem.wpAny_pyIter_tuple (show s1.heap.IsTuple _ its.toArray from pl) ?_
      refine ⟨s1.heap.objs.size, [s1.heap.objs.size], _, _, H1, rfl, I1.kept (t' := s1.toks) fun b o e => Heap.get?_push_of_some _ e, turn_tuple _ _, ⟨_, Heap.get?_push_size _ rfl, rfl, rfl⟩, fun b hb => ?_, hR _ (itr_tup a1.sub h2 h3)⟩
      have e : b = s1.heap.objs.size := by simpa using hb
      subst e
      exact I1.fpOk (Nat.le_refl _) (I1.hok.fresh (Nat.le_refl _))
  | str z =>
    cases e1
    cases rq
    obtain ⟨t, rfl⟩ := r1
    cases ha : z.cps.all (· < 128)
    · exact wpAny_pyIter_wide ha (pi_one (tk := s1.toks) I1 _ (turn_str _ z t "str_iterator" (.inr rfl)) ⟨_, Heap.get?_push_size _ rfl, rfl, rfl⟩ (hR _ itr_str))
    · exact wpAny_pyIter_ascii ha (pi_one (tk := s1.toks) I1 _ (turn_str _ z t "str_ascii_iterator" (.inl rfl)) ⟨_, Heap.get?_push_size _ rfl, rfl, rfl⟩ (hR _ itr_str))
  | _ => cases e1
theorem di_r1 (B : Bi X.mg) (ha : DA X W [a] dl) (hg : Gl X "range" := by rfl) (hs : starEach [a] X.env = [(false, eval a X.env)] := by rfl) : DI X W tg (.Call (.Name "range" p) [a] [] pos) (iR1 dl) :=
  DI.of (pi_range1 hg B.range ha hs) fun H₀ S₀ M S σ H ρ Q ab hp => canon_ok.bind (Rl' := rIt X.K) ab hp fun ps ρ1 vs S1 H1 _ a1 _ r1 hp => by
    split at hp
    · split at hp
      · rename_i hz
        simp only [Bool.and_eq_true, decide_eq_true_eq] at hz
        cases r1 with
        | cons r2 r3 =>
          cases r3; cases r2
          exact ⟨_, rfl, hz.1, hz.2, hp _ S1 H1 a1 itr_range⟩
      · exact hp.elim
    · exact hp.elim
theorem di_r2 (B : Bi X.mg) (ha : DA X W [a, b] dl) (hg : Gl X "range" := by rfl) (hs : starEach [a, b] X.env = [(false, eval a X.env), (false, eval b X.env)] := by rfl) (hs2 : starEach [b] X.env = [(false, eval b X.env)] := by rfl) : DI X W tg (.Call (.Name "range" p) [a, b] [] pos) (iR2 dl) :=
  DI.of (pi_range2 hg B.range ha hs hs2) fun H₀ S₀ M S σ H ρ Q ab hp => canon_ok.bind (Rl' := rIt X.K) ab hp fun ps ρ1 vs S1 H1 _ a1 _ r1 hp => by
    split at hp
    · split at hp
      · rename_i hz
        simp only [Bool.and_eq_true, decide_eq_true_eq] at hz
        cases r1 with
        | cons r2 r3 =>
          cases r3 with
          | cons r4 r5 =>
            cases r5; cases r2; cases r4
            exact ⟨_, _, rfl, ⟨hz.1.1, hz.1.2, hz.2.1, hz.2.2⟩, hp _ S1 H1 a1 itr_range⟩
      · exact hp.elim
    · exact hp.elim
theorem di_enum (B : Bi X.mg) (ha : DA X W [e] dl) (hg : Gl X "enumerate" := by rfl) (hs : starEach [e] X.env = [(false, eval e X.env)] := by rfl) : DI X W (.Tuple elts kk tpos) (.Call (.Name "enumerate" p) [e] [] pos) (iEnu dl) :=
  DI.of (pi_enum hg B.enumerate ha hs) fun H₀ S₀ M S σ H ρ Q ab hp => canon_ok.bind (Rl' := rIt X.K) ab hp fun ps ρ1 vs S1 H1 _ a1 _ r1 hp => by
    split at hp
    · cases r1 with
      | cons r2 r3 =>
        cases r3
        cases r2 with
        | lst h1 h2 => exact ⟨_, _, rfl, .inl (.inl (a1.sub _ _ h1)), hp _ S1 H1 a1 (itr_enum a1.sub h1 h2)⟩
    · exact hp.elim
theorem di_zip (B : Bi X.mg) (ha : DA X W [e, a] dl) (hg : Gl X "zip" := by rfl) (hs : starEach [e, a] X.env = (false, eval e X.env) :: starEach [a] X.env := by rfl) (hpl : (backTo pos (starEach [a] X.env)).any (·.1) = false := by rfl) : DI X W (.Tuple elts kk tpos) (.Call (.Name "zip" p) [e, a] [] pos) (iZp dl) :=
  DI.of (pi_zip hg B.zip ha hs hpl) fun H₀ S₀ M S σ H ρ Q ab hp => canon_ok.bind (Rl' := rIt X.K) ab hp fun ps ρ1 vs S1 H1 _ a1 _ r1 hp => by
    split at hp
    · cases r1 with
      | cons r2 r3 =>
        cases r3 with
        | cons r4 r5 =>
          cases r5
          cases r2 with
          | lst h1 h2 =>
            cases r4 with
            | lst h3 h4 => exact ⟨_, _, _, _, rfl, .inl (.inl (a1.sub _ _ h1)), .inl (.inl (a1.sub _ _ h3)), hp _ S1 H1 a1 (itr_zip a1.sub h1 h2 h3 h4)⟩
    · exact hp.elim
theorem di_rev (B : Bi X.mg) (ha : DA X W [e] dl) (hg : Gl X "reversed" := by rfl) (hs : starEach [e] X.env = [(false, eval e X.env)] := by rfl) : DI X W tg (.Call (.Name "reversed" p) [e] [] pos) (iRv dl) :=
  DI.of (pi_reversed hg B.reversed ha hs) fun H₀ S₀ M S σ H ρ Q ab hp => canon_ok.bind (Rl' := rIt X.K) ab hp fun ps ρ1 vs S1 H1 _ a1 _ r1 hp => by
    split at hp
    · cases r1 with
      | cons r2 r3 =>
        cases r3
        cases r2 with
        | lst h1 h2 => exact ⟨_, _, rfl, .inl (.inl (a1.sub _ _ h1)), hp _ S1 H1 a1 (itr_rev a1.sub h1 h2)⟩
    · exact hp.elim

/-! ### targets -/
structure DG (X : Cx) (tg : Expr) (g : TG) (dg : DenG) : Prop where
  pg : PG X tg g
  ok : GOk X.K g dg
  mono : GMono g
structure DGs (X : Cx) (tgs : List Expr) (g : TGs) (dg : List PV → Env → Option Env) (n : Nat) : Prop where
  pg : PGs X tgs g
  ok : GsOk X.K g dg
  mono : GsMono g
  len : ∀ ps ρ ρ', dg ps ρ = some ρ' → ps.length = n
theorem dg_name {W : WX} (c : Ctx X W k) (i : Nat) (hi : X.N[i]? = some x := by rfl) (hx : Loc X.env.scope x := by first | exact Or.inl rfl | exact Or.inr rfl) (hf : X.fn x = true ∨ X.env.scope.names.lookup x = some .local := by first | exact .inl rfl | exact .inr rfl) : DG X (.Name x pos) (L2.gName i) (gName i) :=
  ⟨pg_name c.nd hi hx hf, go_name, gm_name⟩
theorem dgs_nil : DGs X [] L2.gNil gsNil 0 := ⟨pgs_nil, gso_nil, gms_nil, gsNil_len⟩
theorem dgs_cons {g : TG} {dg : DenG} {gs : TGs} {dgs : List PV → Env → Option Env} {n : Nat} (h1 : DG X e g dg) (h2 : DGs X es gs dgs n) (hs : (assignEach (e :: es) X.env).map (·.2) = assign e X.env :: (assignEach es X.env).map (·.2) := by rfl) : DGs X (e :: es) (L2.gCons g gs) (gsCons dg dgs) (n + 1) :=
  ⟨pgs_cons h1.pg h2.pg hs, gso_cons h1.ok h2.ok, gms_cons h1.mono h2.mono, gsCons_len h2.len⟩
theorem dg_tup {W : WX} (c : Ctx X W k) {gs : TGs} {dgs : List PV → Env → Option Env} {n : Nat} (h : DGs X es gs dgs n) (hn : (assignEach es X.env).length = n := by rfl) (hst : (assignEach es X.env).findIdx? (·.1) = none := by rfl) : DG X (.Tuple es kk pos) (L2.gTup X.K n gs) (gTup dgs) :=
  ⟨pg_tup c.calm h.pg hn hst, go_tup h.ok h.len, gm_tup h.mono⟩

/-! ### comprehensions -/
structure LG (K : PySem.W.Frag) (own : List Nat) (g : TG) (dg : DenG) : Prop where
  ok : GOk K g dg
  mono : GMono g
  w : TgW own g
structure LGs (K : PySem.W.Frag) (own : List Nat) (g : TGs) (dg : List PV → Env → Option Env) (n : Nat) : Prop where
  ok : GsOk K g dg
  mono : GsMono g
  len : ∀ ps ρ ρ', dg ps ρ = some ρ' → ps.length = n
  w : TgsW own g
theorem lg_name {K : PySem.W.Frag} {own : List Nat} (i : Nat) (h : i ∈ own := by decide) : LG K own (L2.gName i) (gName i) := ⟨go_name, gm_name, tw_name h⟩
theorem lgs_nil {K : PySem.W.Frag} {own : List Nat} : LGs K own L2.gNil gsNil 0 := ⟨gso_nil, gms_nil, gsNil_len, tws_nil⟩
theorem lgs_cons {K : PySem.W.Frag} {own : List Nat} {gs : TGs} {dgs : List PV → Env → Option Env} {n : Nat} (i : Nat) (h2 : LGs K own gs dgs n) (h : i ∈ own := by decide) : LGs K own (L2.gCons (L2.gName i) gs) (gsCons (gName i) dgs) (n + 1) :=
  ⟨gso_cons go_name h2.ok, gms_cons gm_name h2.mono, gsCons_len h2.len, tws_name h h2.w⟩
theorem lg_tup {K : PySem.W.Frag} {own : List Nat} {gs : TGs} {dgs : List PV → Env → Option Env} {n : Nat} (h : LGs K own gs dgs n) : LG K own (L2.gTup K n gs) (gTup dgs) := ⟨go_tup h.ok h.len, gm_tup h.mono, tw_tup h.w⟩
def bYes : DenB := fun ρ => .ok true ρ
theorem dts_nil : DTs X W [] bYes := DTs.of pts_nil fun H₀ S₀ M S σ H ρ Q ab hp => hp true S H ab rfl
theorem dts_one {dt : DenB} (h : DT X W e dt) : DTs X W [e] dt := DTs.of (pts_one h) canon_ok
theorem df_lc {elt tg iter : Expr} {ifs : List Expr} {scope : Scope} {g : TG} {dg : DenG} {dt : DenB} {de : Den} (own : List (Str × Nat)) (c : Ctx X W k) (hi : DI X W tg iter dl) (hl : LG X.K (own.map (·.2)) g dg)
    (hg : ∀ (s : Shared) (H : Hp) (C : Addr) (cl : List (Str × Addr)) (fp : List Addr), DG (X.blk s H scope (PySem.compEnvC scope cl C X.env) fp) tg g dg) (ht : ∀ (s : Shared) (H : Hp) (C : Addr) (cl : List (Str × Addr)) (fp : List Addr), DTs (X.blk s H scope (PySem.compEnvC scope cl C X.env) fp) (fun _ _ _ _ => False) ifs dt)
    (he : ∀ (s : Shared) (H : Hp) (C : Addr) (cl : List (Str × Addr)) (fp : List Addr), DE (X.blk s H scope (PySem.compEnvC scope cl C X.env) fp) (fun _ _ _ _ => False) elt de) (ok : BlkOk X.N X.env.scope scope own := by exact blkOk_by (by decide +kernel)) (hs : ∀ x, foldedSetIterable iter X.env x = pure x := by intro _; rfl) :
    DF X W (.ListComp elt [⟨tg, iter, ifs, 0⟩] scope pos) (dLc (own.map (·.2)) dl dg dt de) :=
  DF.of (pe_lc c.calm c.nd hi ok (fun s H C cl fp => (hg s H C cl fp).pg) ht he hs) (fo_lc canon_ok hl.ok hl.w hl.mono canon_ok canon_ok)

/-! ### statements -/
variable {st : Stmt} {sts rest s2 : List Stmt} {d1 d2 : DenS} {du : DenB} {db : Den}
theorem dss_nil : DSs X W fr [] sNx := DSs.of pss_nil so_nx
theorem dss_cons (h1 : DS X W fr st d1) (h2 : DSs X W fr rest d2) : DSs X W fr (st :: rest) (sSeq d1 d2) := DSs.of (pss_cons h1 h2) (so_seq canonS_ok canonS_ok)
theorem dss_one (h1 : DS X W fr st d1) : DSs X W fr [st] d1 := pss_one h1
theorem ds_pass : DS X W fr (.Pass pos) sNx := DS.of ps_pass so_nx
theorem ds_brk : DS X W fr (.Break pos) sBk := DS.of ps_break so_bk
theorem ds_cont : DS X W fr (.Continue pos) sCt := DS.of ps_continue so_ct
theorem ds_expr (h : DE X W e da) (hs : swapsWith e none pos.line X.env = pure false := by rfl) : DS X W fr (.Expr e pos) (sExpr da) := DS.of (ps_expr h hs) (so_expr canon_ok)
theorem ds_ret (h : DE X W e da) : DS X W false (.Return (some e) pos) (sRet da) := DS.of (ps_ret h) (so_ret canon_ok)
theorem ds_retF (h : DF X W e da) : DS X W true (.Return (some e) pos) (sRet da) := DS.of (ps_ret h) (so_retF canon_ok)
theorem ds_retO (i : Nat) (h : PE X (.Name x p) (tVar i)) : DS X W true (.Return (some (.Name x p)) pos) (sRetO i) := DS.of (ps_ret h) so_retO
theorem ds_retN : DS X W false (.Return none pos) sRetN := DS.of ps_retN so_retN
theorem ds_if (hc : DT X W e du) (h1 : DSs X W fr sts d1) (h2 : DSs X W fr s2 d2) : DS X W fr (.If e sts s2 pos) (sIf du d1 d2) := DS.of (ps_if hc h1 h2) (so_if canon_ok canonS_ok canonS_ok)
theorem ds_set (c : Ctx X W k) (i : Nat) (h : DE X W e da) (hi : X.N[i]? = some x := by rfl) (hx : Loc X.env.scope x := by first | exact Or.inl rfl | exact Or.inr rfl) (hs : swapsWith e (some (.Name x p)) pos.line X.env = pure false := by rfl) (hf : X.fn x = true ∨ X.env.scope.names.lookup x = some .local := by first | exact .inl rfl | exact .inr rfl) :
    DS X W fr (.Assign [.Name x p] e pos) (sSet i da) := DS.of (ps_set c.nd hi hx h hs hf) (so_set canon_ok)
theorem ds_setF (c : Ctx X W k) (i : Nat) (h : DF X W e da) (hi : X.N[i]? = some x := by rfl) (hx : Loc X.env.scope x := by first | exact Or.inl rfl | exact Or.inr rfl) (hs : swapsWith e (some (.Name x p)) pos.line X.env = pure false := by rfl) (hf : X.fn x = true ∨ X.env.scope.names.lookup x = some .local := by first | exact .inl rfl | exact .inr rfl) :
    DS X W fr (.Assign [.Name x p] e pos) (sSetF i da) := DS.of (ps_set c.nd hi hx h hs hf) (so_setF canon_ok)
/-- y = [..], y a plain local -/
theorem ds_setLcF {elt tg iter : Expr} {ifs : List Expr} {scope : Scope} {g : TG} {dg : DenG} {dt : DenB} {de : Den} (i : Nat) (own : List (Str × Nat)) (c : Ctx X W k) (hi : DI X W tg iter dl) (hl : LG X.K (own.map (·.2)) g dg)
    (hg : ∀ (s : Shared) (H : Hp) (C : Addr) (cl : List (Str × Addr)) (fp : List Addr), DG (X.blk s H scope (PySem.compEnvC scope cl C X.env) fp) tg g dg) (ht : ∀ (s : Shared) (H : Hp) (C : Addr) (cl : List (Str × Addr)) (fp : List Addr), DTs (X.blk s H scope (PySem.compEnvC scope cl C X.env) fp) (fun _ _ _ _ => False) ifs dt)
    (he : ∀ (s : Shared) (H : Hp) (C : Addr) (cl : List (Str × Addr)) (fp : List Addr), DE (X.blk s H scope (PySem.compEnvC scope cl C X.env) fp) (fun _ _ _ _ => False) elt de) (hy : X.N[i]? = some x := by rfl) (hyl : X.env.scope.names.lookup x = some .local := by rfl)
    (hsw : swapsWith (.ListComp elt [⟨tg, iter, ifs, 0⟩] scope p2) (some (.Name x p)) pos.line X.env = pure true := by exact sw_true rfl rfl rfl (by decide +kernel)) (ok : BlkOk X.N X.env.scope scope own := by exact blkOk_by (by decide +kernel)) (hs : ∀ x, foldedSetIterable iter X.env x = pure x := by intro _; rfl) :
    DS X W fr (.Assign [.Name x p] (.ListComp elt [⟨tg, iter, ifs, 0⟩] scope p2) pos) (sSetF i (dLc (own.map (·.2)) dl dg dt de)) :=
  DS.of (ps_setLc c.calm c.nd hy hyl hsw hi ok (fun s H C cl fp => (hg s H C cl fp).pg) ht he hs) (so_setF (fo_lc canon_ok hl.ok hl.w hl.mono canon_ok canon_ok))
theorem ds_setLc {elt tg iter : Expr} {ifs : List Expr} {scope : Scope} {g : TG} {dg : DenG} {dt : DenB} {de : Den} (i : Nat) (own : List (Str × Nat)) (c : Ctx X W k) (hi : DI X W tg iter dl) (hl : LG X.K (own.map (·.2)) g dg)
    (hg : ∀ (s : Shared) (H : Hp) (C : Addr) (cl : List (Str × Addr)) (fp : List Addr), DG (X.blk s H scope (PySem.compEnvC scope cl C X.env) fp) tg g dg) (ht : ∀ (s : Shared) (H : Hp) (C : Addr) (cl : List (Str × Addr)) (fp : List Addr), DTs (X.blk s H scope (PySem.compEnvC scope cl C X.env) fp) (fun _ _ _ _ => False) ifs dt)
    (he : ∀ (s : Shared) (H : Hp) (C : Addr) (cl : List (Str × Addr)) (fp : List Addr), DE (X.blk s H scope (PySem.compEnvC scope cl C X.env) fp) (fun _ _ _ _ => False) elt de) (hy : X.N[i]? = some x := by rfl) (hyl : X.env.scope.names.lookup x = some .local := by rfl)
    (hsw : swapsWith (.ListComp elt [⟨tg, iter, ifs, 0⟩] scope p2) (some (.Name x p)) pos.line X.env = pure true := by exact sw_true rfl rfl rfl (by decide +kernel)) (ok : BlkOk X.N X.env.scope scope own := by exact blkOk_by (by decide +kernel)) (hs : ∀ x, foldedSetIterable iter X.env x = pure x := by intro _; rfl) :
    DS X W fr (.Assign [.Name x p] (.ListComp elt [⟨tg, iter, ifs, 0⟩] scope p2) pos) (sSet i (dLc (own.map (·.2)) dl dg dt de)) :=
  DS.of (ps_setLc c.calm c.nd hy hyl hsw hi ok (fun s H C cl fp => (hg s H C cl fp).pg) ht he hs) (so_set (fo_lc canon_ok hl.ok hl.w hl.mono canon_ok canon_ok).shared)
theorem ds_asg {g : TG} {dg : DenG} (h : DE X W e da) (hg : DG X tg g dg) (hs : swapsWithSole [tg] e pos.line X.env = pure false := by rfl) (hw : swappedStores [tg] e X.env = pure none := by rfl) (h1 : (assignEach [tg] X.env).map (·.2) = [assign tg X.env] := by rfl) :
    DS X W fr (.Assign [tg] e pos) (sAsg da dg) := DS.of (ps_asg h hg.pg hs hw h1) (so_asg canon_ok hg.ok)
/-- x[a] = e, x an owned list in a slot -/
theorem ds_sub (i : Nat) (ho : PE X (.Name x p) (tVar i)) (hi : DE X W a db) (h : DE X W e da)
    (ha : ∀ v, assign (.Subscript (.Name x p) a p2) X.env v = (do
      let ov ← holding [v] (eval (.Name x p) X.env)
      let iv ← holding [v, ov] (eval a X.env)
      standAt p2
      holding [v, ov, iv] (setItem ov iv v)
      release [v, ov, iv] []) := by intro _; rfl) (hs : swapsWithSole [.Subscript (.Name x p) a p2] e pos.line X.env = pure false := by rfl) (hw : swappedStores [.Subscript (.Name x p) a p2] e X.env = pure none := by rfl) (h1 : (assignEach [.Subscript (.Name x p) a p2] X.env).map (·.2) = [assign (.Subscript (.Name x p) a p2) X.env] := by rfl) :
    DS X W fr (.Assign [.Subscript (.Name x p) a p2] e pos) (sSub gSetL i db da) := DS.of (ps_asg h (pg_sub ho hi set_list ha) hs hw h1) (so_sub canon_ok canon_ok st_list)
def gAugAdd : PV → PV → Option PV
  | .int i, .int j => some (.int (i + j))
  | .str x, .str y => if x.length + y.length ≤ sizeLine then some (.str (x ++ y)) else none
  | _, _ => none
def rAugAdd : R2 := fun x y H Q => (∃ i j, x = .int i ∧ y = .int j ∧ Q (.int (i + j)) H) ∨ (∃ i j, x = .str i ∧ y = .str j ∧ i.length + j.length ≤ sizeLine ∧ Q (.str (i ++ j)) H)
theorem v2_augAdd {K : PySem.W.Frag} : V2 K rAugAdd gAugAdd := by
  intro S H x y p q z Q s rx ry e k
  unfold gAugAdd at e
  split at e
  · cases rx; cases ry; cases e
    exact .inl ⟨_, _, rfl, rfl, k _ S H (Step.refl s) (.int _)⟩
  · split at e
    · rename_i hz
      cases rx; cases ry; cases e
      exact .inr ⟨_, _, rfl, rfl, hz, k _ S H (Step.refl s) (.str _)⟩
    · cases e
  · cases e
theorem augAdd_sc : ∀ p q z, gAugAdd p q = some z → z.sc = true := by
  intro p q z e
  unfold gAugAdd at e
  split at e
  · cases e; rfl
  · split at e
    · cases e; rfl
    · cases e
  · cases e
theorem gSub_sc : ∀ p q z, gSub p q = some z → z.sc = true := by
  intro p q z e
  unfold gSub at e
  split at e
  · cases e; rfl
  · cases e
theorem pip_or {op : Operator} {r r' : TIp} (h : PIp X op r) (h' : PIp X op r') : PIp X op (fun x y H Q => r x y H Q ∨ r' x y H Q) := by
  intro pins s σ H x y v u Q I rx ry q
  rcases q with q | q
  · exact h pins s σ H x y v u Q I rx ry q
  · exact h' pins s σ H x y v u Q I rx ry q
theorem pip_add : PIp X .Add rAugAdd := pip_or (fun pins s σ H x y v u Q I rx ry q => iop_add pins s σ H x y v u Q I rx ry q) fun pins s σ H x y v u Q I rx ry q => iop_add_str pins s σ H x y v u Q I rx ry q
theorem ds_augAdd (c : Ctx X W k) (i : Nat) (h : DE X W e da) (hi : X.N[i]? = some x := by rfl) (hx : Loc X.env.scope x := by first | exact Or.inl rfl | exact Or.inr rfl) (hf : X.fn x = true ∨ X.env.scope.names.lookup x = some .local := by first | exact .inl rfl | exact .inr rfl) :
    DS X W fr (.AugAssign (.Name x p) .Add e pos) (sAug i gAugAdd da) := DS.of (ps_aug c.nd hi hx h pip_add hf) (so_aug canon_ok v2_augAdd augAdd_sc)
theorem ds_augSub (c : Ctx X W k) (i : Nat) (h : DE X W e da) (hi : X.N[i]? = some x := by rfl) (hx : Loc X.env.scope x := by first | exact Or.inl rfl | exact Or.inr rfl) (hf : X.fn x = true ∨ X.env.scope.names.lookup x = some .local := by first | exact .inl rfl | exact .inr rfl) :
    DS X W fr (.AugAssign (.Name x p) .Sub e pos) (sAug i gSub da) := DS.of (ps_aug c.nd hi hx h (fun pins s σ H x y v u Q I rx ry q => iop_sub pins s σ H x y v u Q I rx ry q) hf) (so_aug canon_ok v2_sub gSub_sc)
/-- what lets out what is raised -/
abbrev Po (X : Cx) : Prop := PassesOwn (model X.prog X.w) X.A X.env X.xe
theorem ds_for {g : TG} {dg : DenG} (hp : Po X) (c : Ctx X W k) (hi : DI X W tg e dl) (hg : DG X tg g dg) (hb : DSs X W fr sts d1) (hs : ∀ x, foldedSetIterable e X.env x = pure x := by intro _; rfl) : DS X W fr (.For tg e sts [] pos) (sFor dl dg d1) :=
  DS.of (ps_for hp c.calm hi hg.pg hb hs) (so_for canon_ok hg.ok canonS_ok)
theorem ds_while (μ : Env → Nat) (hp : Po X) (hc : DT X W e du) (hb : DSs X W fr sts d1) : DS X W fr (.While e sts [] pos) (sWhile μ du d1) :=
  DS.of (ps_while hp hc hb) (so_while canon_ok canonS_ok)
end
/-- THE RULE for a def, over pieces of syntax -/
theorem fd_ok {P : Program} {w : World} {K : PySem.W.Frag} {mg : Str → Option Value} {base : Heap} {x qual : Str} {st : Stmt} {f : Addr} {fd : FuncData} {N ps : List Str} {k : Nat} {io fr : Bool} {d : DenS} (F : Fun K x qual st f fd) (hm : mg x = some (.ref f)) (S : FnScope N ps (defScope st))
    (hb : Binds K fd ps []) (hl : ps.length ≤ N.length)
    (hbody : ∀ (cdv : Value) (A : Around) (outer : List PySem.Env) (s : Shared) (H : Hp) (E : XK), Ctx (cxOf (L2.CX P w) P w K mg base N qual (defScope st) f cdv A outer s H E) (fun cls dd _ H => E cls dd H) k → Po (cxOf (L2.CX P w) P w K mg base N qual (defScope st) f cdv A outer s H E) →
      DSs (cxOf (L2.CX P w) P w K mg base N qual (defScope st) f cdv A outer s H E) (fun cls dd _ H => E cls dd H) fr (defBody st) d) :
    Fd P w K mg base x (k + 1) io fr ps.length (runD io fr ps.length N.length d) := by
  refine ⟨⟨f, fd, ps, fn_ok F S hl fun cdv A outer s H E hr => ⟨_, hbody cdv A outer s H E ⟨rfl, S.nd, hr, takes_of rfl rfl rfl rfl⟩ (passes_of rfl), canonS_ok⟩, hm, F.kp, hb⟩, fun qs h => ?_⟩
  unfold runD at h
  by_cases e : qs.length = ps.length
  · exact e
  · rw [if_neg e] at h
    exact absurd rfl h
theorem Fd.eq {P : Program} {w : World} {K : PySem.W.Frag} {mg : Str → Option Value} {base : Heap} {x : Str} {k n : Nat} {io fr : Bool} {F G : List PV → FR} (h : Fd P w K mg base x k io fr n F) (e : ∀ ps, G ps ≠ .bad → F ps = G ps) : Fd P w K mg base x k io fr n G := by
  obtain ⟨f, fd, ps, h1, h2, h3, h4⟩ := h.ex
  exact ⟨⟨f, fd, ps, fn_eq h1 e, h2, h3, h4⟩, fun qs hq => h.len qs (by rw [e qs hq]; exact hq)⟩
end PL

set_option Elab.async false
set_option linter.all false
set_option maxRecDepth 100000
set_option maxHeartbeats 4000000
namespace PL
open PySem PySem.Spec L2
open PyProof.Rows hiding St
set_option autoImplicit false

/-! ### try with several clauses 'except x as n' that share the name n -/
/-- what stands behind a clause: the name's slot is empty -/
def gone (i : Nat) (D : Ends) : Ends := ⟨fun τ G => D.nx (τ.set i none) G, D.rt, fun τ G => D.bk (τ.set i none) G, fun τ G => D.ct (τ.set i none) G⟩
/-- a clause: its class, what its suite is worth -/
abbrev Clause := Value × (Addr → Value → Option Addr → TS)
def wCl (K : PySem.W.Frag) (out : WX) (D : Ends) (i : Nat) : List Clause → WX
  | [] => out
  | (c, ts) :: more => fun cls d τ G => ∃ hit, PySem.W.exmOne K cls c = some hit ∧
      (hit = true → ∀ a, G a = none → ts a cls d (gone i D) (τ.set i (some (.ref a))) G) ∧ (hit = false → wCl K out D i more cls d τ G)
inductive Clauses (X : Cx) (n : Str) : List ExceptHandler → List Clause → Prop
  | nil : Clauses X n [] []
  | cons {y : Str} {c : Value} {ts : Addr → Value → Option Addr → TS} {b : Stmt} {bs : List Stmt} {q q' : Pos} {hs : List ExceptHandler} {cl : List Clause} : Names X y c →
      (∀ (a : Addr) (ob : Obj) (cls : Value) (d : Option Addr) (pn : List (Addr × Obj)), Zc cls d ob → (∃ vs, ob.data = .fields vs) → PSs (X.suite a ((a, ob) :: pn)) (b :: bs) (ts a cls d)) →
      Clauses X n hs cl → Clauses X n (.ExceptHandler (some (.Name y q)) (some n) (b :: bs) q' :: hs) ((c, ts) :: cl)
section
variable {X : Cx} {n : Str} {i : Nat} {out : WX} {D : Ends} {pins : List (Addr × Obj)} {a : Addr} {B : Heap} {cls : Value} {d : Option Addr} {τ : L2.St} {G : Hp} {sI s' : Shared}
/-- where a caught exception stands: what its clauses lean on -/
structure Caught (X : Cx) (pins : List (Addr × Obj)) (a : Addr) (B : Heap) (cls : Value) (d : Option Addr) (τ : L2.St) (G : Hp) (sI s' : Shared) : Prop where
  inv : Inv X pins τ G sI
  ground : ∀ b o, sI.heap.get? b = some o → b ∉ frs X.stack → B.get? b = some o
  up : sI.heap.UpToSlots s'.heap
  na : G a = none
  os : s'.os = sI.os
  bare : AllBare s'.gens
theorem Caught.suite (k : Caught X pins a B cls d τ G sI s') (hstk : X.stack = X.env :: X.outer) (hfr : X.env.frame = some X.env.locals) {g : Heap} (fly : HandSPX.FlyingZ B (X.env :: X.outer) a (Zc cls d) g) (u : s'.heap.UpToSlots g) :
    ∃ ob, g.get? a = some ob ∧ Zc cls d ob ∧ (∃ vs, ob.data = .fields vs) ∧ Inv X pins τ G { s' with heap := g } ∧ Inv (X.suite a ((a, ob) :: (X.pn ++ pins))) [] τ G { s' with heap := g } := by
  have J : Inv X pins τ G { s' with heap := g } := k.inv.landed (s' := { s' with heap := g }) k.ground fly.1 (k.up.trans u) k.os k.bare
  obtain ⟨ob, vs, e1, e2, e3⟩ := fly.there
  have far : a ∉ frs (X.env :: X.outer) := fun m => by
    obtain ⟨_, o2, z1, z2⟩ := fly.2.2.1.mem m
    rw [e1] at z1
    cases z1
    exact z2 _ e3
  refine ⟨ob, e1, e2, ⟨vs, e3⟩, J, J.suite e1 e3 k.na (fun z => far ?_) fun m => far ?_⟩
  · exact List.mem_filterMap.mpr ⟨X.env, List.mem_cons_self, by rw [hfr, z]⟩
  · obtain ⟨env, m1, m2⟩ := List.mem_filterMap.mp m
    exact List.mem_filterMap.mpr ⟨env, List.mem_cons_of_mem _ m1, m2⟩
theorem clauses_run (hN : X.N.Nodup) (hi : X.N[i]? = some n) (hln : X.env.kindOf n = some .local) (hstk : X.stack = X.env :: X.outer) (hfr : X.env.frame = some X.env.locals) (tk : Takes X out)
    (k : Caught X pins a B cls d τ G sI s') {g : Heap} (fly : HandSPX.FlyingZ B (X.env :: X.outer) a (Zc cls d) g) (u : s'.heap.UpToSlots g) {hs : List ExceptHandler} {cl : List Clause} (h : Clauses X n hs cl) :
    wCl X.K out D i cl cls d τ G → wpAny (model X.prog X.w) X.A (handleBy (.ref a) X.env hs) (SP X pins D) X.xe { s' with heap := g } := by
  obtain ⟨ob, e1, e2, e3, J, JS⟩ := k.suite hstk hfr fly u
  induction h with
  | nil =>
    intro w
    refine wpAny_handleBy_nil ?_
    obtain ⟨_, _, _, o1, flds, T, _, _, f1, _, f2, f3, _⟩ := id fly
    unfold PySem.passOn
    refine wpAny_bind (PySem.wpAny_field f1 f2 f3 ?_)
    have nn : ¬ ((Value.ref T == Value.none) = true) := by simp
    rw [if_neg nn]
    have again : wpAny (model X.prog X.w) X.A (setFlight (.ref a) X.env.frame) (fun _ s4 => wpAny (model X.prog X.w) X.A (throw (.ref a) : Sem Flow) (SP X pins D) X.xe s4) X.xe { s' with heap := g } := by
      rw [hfr]
      refine HandSPX.setFlight_upZ fly fun g2 held u2 => wpAny_throw (tk _ _ ?_)
      refine ⟨a, B, sI, pins, τ, G, cls, d, rfl, k.inv, k.ground, (k.up.trans u).trans u2, .inr (.inr ?_), k.na, k.os, k.bare, w⟩
      rw [hstk]
      exact held
    first
      | exact wpAny_bind (wpAny_pure (wpAny_bind again))
      | exact wpAny_bind again
  | @cons y c ts b bs q q' more cl' names suite _ ih =>
    rintro ⟨hit, exm, yes, no⟩
    refine wpAny_handleBy_cons (codeAny_handlers_test ?_) (by intro z; cases z)
    have ty : PySem.W.Looks (model X.prog X.w) g (typeOf (.ref a)) cls := fun A Q E s kk qq => PySem.wpAny_typeOf_ref (kk _ _ e1) (by rw [e2.1]; exact qq)
    have look := PySem.W.exm_one (M := model X.prog X.w) J.kIn ty exm
    have named : ∀ {Q : Value → Shared → Prop} {E : Value → Shared → Prop}, Q c { s' with heap := g } → wpAny (model X.prog X.w) (X.A.mark (some (.ref a))) (eval (.Name y q) X.env) Q E { s' with heap := g } := fun {Q E} qq => by
      obtain ⟨g1, g2, g3⟩ := names
      rcases g3 with g3 | ⟨g3, g4, g5⟩
      · exact ld_glob (X := X.suite a ((a, ob) :: (X.pn ++ pins))) JS g1 g3 qq g2
      · exact ld_blt (X := X.suite a ((a, ob) :: (X.pn ++ pins))) JS g1 g3 g4 qq g5 g2
    refine named (look.here ?_)
    cases hit with
    | false => exact ih (no rfl)
    | true =>
      refine codeAny_handlers_suite_as (HandSPX.lands_againZ fly fun g2 fly2 u2 => ?_)
      obtain ⟨ob2, _, z2, z3, _, JS2⟩ := k.suite hstk hfr fly2 (u.trans u2)
      refine store_ok (X := X.suite a ((a, ob2) :: (X.pn ++ pins))) (v := .ref a) JS2 hN hi (.inl hln) rfl (fun s5 J5 => ?_) (.inr hln)
      have body := (suite a ob2 cls d (X.pn ++ pins) z2 z3).run [] s5 _ G _ J5 (yes rfl a k.na)
      refine wpAny_mono body (fun f s6 sp => ?_) fun _ _ z => z.elim
      have leave : ∀ {τ6 : L2.St} {G6 : Hp} {Q : Shared → Prop}, Inv (X.suite a ((a, ob2) :: (X.pn ++ pins))) [] τ6 G6 s6 → (∀ s7, Inv X pins (τ6.set i none) G6 s7 → Q s7) →
          wpAny (model X.prog X.w) X.A (do bindName X.env n .none; unbindBehindTheSuite X.env n q') (fun _ s7 => Q s7) X.xe s6 := fun J6 hq => gone_ok (J6.unsuite k.inv.ok) hN hi hln hq
      match f, sp with
      | .next, ⟨_, _, J6, q6⟩ => exact leave J6 fun s7 J7 => ⟨_, _, J7, q6⟩
      | .brk, ⟨_, _, J6, q6⟩ => exact leave J6 fun s7 J7 => ⟨_, _, J7, q6⟩
      | .cont, ⟨_, _, J6, q6⟩ => exact leave J6 fun s7 J7 => ⟨_, _, J7, q6⟩
      | .ret v, ⟨_, _, _, J6, r6, q6⟩ => exact leave J6 fun s7 J7 => ⟨_, _, _, J7, r6, q6⟩
theorem ps_tryN {body : List Stmt} {h₀ : ExceptHandler} {hs : List ExceptHandler} {cl : List Clause} {pos : Pos} {tb : WX → TS} (hN : X.N.Nodup) (hi : X.N[i]? = some n) (hln : X.env.kindOf n = some .local) (hstk : X.stack = X.env :: X.outer) (hfr : X.env.frame = some X.env.locals) (tk : Takes X out)
    (hb : ∀ (W : WX) (pn : List (Addr × Obj)) (xe : Value → Shared → Prop), Takes (X.tr pn xe) W → PassesOwn (model X.prog X.w) X.A X.env xe → PSs (X.tr pn xe) body (tb W)) (hh : Clauses X n (h₀ :: hs) cl) :
    PS X (.Try body (h₀ :: hs) [] [] pos) (fun D σ H => tb (wCl X.K out D i cl) D σ H) := ⟨fun pins s σ H D I h => by
  have ok := I.ok
  let caught : Value → Shared → Prop := fun e s₁ => wpAny (model X.prog X.w) X.A (noteFrame e X.env) (fun _ s₂ => wpAny (model X.prog X.w) X.A (setFlight e none) (fun _ s₃ => wpAny (model X.prog X.w) X.A (handleBy e X.env (h₀ :: hs)) (SP X pins D) X.xe s₃) X.xe s₂) X.xe s₁
  have takes : Takes (X.tr (X.pn ++ pins) caught) (wCl X.K out D i cl) := by
    rintro e s' ⟨a, B, sI, pn, τ, G, cls, d, rfl, J, nb, up, sky, na, os, ag, w⟩
    have sky' : Sky B (X.env :: X.outer) a (Zc cls d) X.env.locals s'.heap := hstk ▸ sky
    show wpAny (model X.prog X.w) X.A (noteFrame (.ref a) X.env) _ _ _
    exact Sky.land Zc.steady (by rw [ok.frames, hstk]) hfr sky' fun g fly u => clauses_run hN hi hln hstk hfr tk ⟨J.ofTry ok, nb, up, na, os, ag⟩ fly u hh w
  refine wpAny_Try_except (wpAny_mono ((hb _ (X.pn ++ pins) caught takes PassesOwn.looking).run [] s σ H D (I.toTry caught) h) (fun f s1 sp => ?_) fun e s1 he => he)
  match f, sp with
  | .next, ⟨_, _, J, q⟩ => exact wpAny_execs_nil ⟨_, _, J.ofTry ok, q⟩
  | .brk, ⟨_, _, J, q⟩ => exact ⟨_, _, J.ofTry ok, q⟩
  | .cont, ⟨_, _, J, q⟩ => exact ⟨_, _, J.ofTry ok, q⟩
  | .ret v, ⟨_, _, _, J, r, q⟩ => exact ⟨_, _, _, J.ofTry ok, r, q⟩⟩
end
end PL

set_option Elab.async false
set_option linter.all false
set_option maxRecDepth 100000
set_option maxHeartbeats 4000000
namespace PL
open PySem PySem.Spec L2
open PyProof.Rows hiding St
set_option autoImplicit false

/-! ### error classes of the program's own, and what the written part says of them -/
def oexB (K : PySem.W.Frag) (C : Addr) : Bool := match K.lookup C with
  | some ⟨.type "type", _, .cls cd, sl⟩ => (match cd.mro, sl.toList with
    | .ref C' :: bm, [_, _, _, _, some (.builtin n), _] => C' == C && n == "ValueError.__new__" && !cd.hasDel && cd.hasDict && PySem.HandSPX.refsVE bm
    | _, _ => false)
  | _ => false
theorem oexB_ok {K : PySem.W.Frag} {C : Addr} (h : oexB K C = true) (sa : PySem.W.findIn K (.ref C) "__setattr__" = some (some (.builtin "object.__setattr__"))) (ex : PySem.W.subIn K (.ref C) (.type "BaseException") = some true) (ty : PySem.W.typeIn K (.ref C) = some (.type "type")) (kp : PySem.W.keepIn K (.ref C) = true) : OexC K C := by
  refine ⟨?_, sa, ex, ty, kp⟩
  unfold oexB at h
  split at h
  · rename_i dd cd sl ho
    split at h
    · rename_i C' bm k0 k1 k2 k3 n k5 hm hs
      simp only [Bool.and_eq_true, beq_iff_eq, Bool.not_eq_true'] at h
      obtain ⟨⟨⟨⟨rfl, rfl⟩, hdel⟩, hdct⟩, hr⟩ := h
      obtain ⟨nm, bs, mro, ns, qn, hd, sn, sub, ab, col, del⟩ := cd
      dsimp only at hm hdel hdct
      subst hm hdel hdct
      have hsl : sl = #[k0, k1, k2, k3, some (.builtin "ValueError.__new__"), k5] := by
        obtain ⟨l⟩ := sl
        simp only at hs
        rw [hs]
      subst hsl
      exact ⟨_, _, _, _, _, _, _, _, _, _, _, _, _, _, _, ho, hr⟩
    · cases h
  · cases h
/-- the error class x with one field -/
def ecB (K : PySem.W.Frag) (x fld : Str) : Bool :=
  He.eqO (PySem.W.nsIn K mainGlobals x) (some (some (.ref (He.ga K x)))) && (oexB K (He.ga K x) && (He.eqO (PySem.W.findIn K (.ref (He.ga K x)) "__setattr__") (some (some (.builtin "object.__setattr__"))) &&
    (decide (PySem.W.subIn K (.ref (He.ga K x)) (.type "BaseException") = some true) && (decide (PySem.W.typeIn K (.ref (He.ga K x)) = some (.type "type")) && (PySem.W.keepIn K (.ref (He.ga K x)) &&
    (He.eqO (PySem.W.findIn K (.ref (He.ga K x)) "__init__") (some (some (.ref (He.ma K (He.ga K x) "__init__")))) && (decide (PySem.W.typeIn K (.ref (He.ma K (He.ga K x) "__init__")) = some (.type "function")) &&
    (He.eqO (PySem.W.findIn K (.ref (He.ga K x)) fld) (some none) && xfB K (He.ga K x)))))))))
structure EcK (K : PySem.W.Frag) (x fld : Str) : Prop where
  ns : PySem.W.nsIn K mainGlobals x = some (some (.ref (He.ga K x)))
  oex : OexC K (He.ga K x)
  ini : PySem.W.findIn K (.ref (He.ga K x)) "__init__" = some (some (.ref (He.ma K (He.ga K x) "__init__")))
  ity : PySem.W.typeIn K (.ref (He.ma K (He.ga K x) "__init__")) = some (.type "function")
  fld : PySem.W.findIn K (.ref (He.ga K x)) fld = some none
  xf : XfC K (He.ga K x)
theorem ecB_ok {K : PySem.W.Frag} {x fld : Str} (h : ecB K x fld = true) : EcK K x fld := by
  unfold ecB at h
  simp only [Bool.and_eq_true] at h
  obtain ⟨h1, h2, h3, h4, h5, h6, h7, h8, h9, h10⟩ := h
  exact ⟨He.eqO_ok h1, oexB_ok h2 (He.eqO_ok h3) (of_decide_eq_true h4) (of_decide_eq_true h5) h6, He.eqO_ok h7, of_decide_eq_true h8, He.eqO_ok h9, xfB_ok h10⟩
/-- the base class x: its __init__ is ValueError's -/
def peB (K : PySem.W.Frag) (x : Str) : Bool :=
  He.eqO (PySem.W.nsIn K mainGlobals x) (some (some (.ref (He.ga K x)))) && (He.eqO (PySem.W.specialIn K (.ref (He.ga K x)) "__getattribute__") (some (some (.builtin "type.__getattribute__"))) &&
    (PySem.W.readsIn K (He.ga K x) (.type "type") && (match PySem.W.findCls K (.ref (He.ga K x)) (.type "type") "__init__" with
      | some (.val (.builtin n)) => n == "ValueError.__init__"
      | _ => false)))
structure PeK (K : PySem.W.Frag) (x : Str) : Prop where
  ns : PySem.W.nsIn K mainGlobals x = some (some (.ref (He.ga K x)))
  ga : PySem.W.specialIn K (.ref (He.ga K x)) "__getattribute__" = some (some (.builtin "type.__getattribute__"))
  rd : PySem.W.readsIn K (He.ga K x) (.type "type") = true
  at_ : PySem.W.findCls K (.ref (He.ga K x)) (.type "type") "__init__" = some (.val (.builtin "ValueError.__init__"))
theorem peB_ok {K : PySem.W.Frag} {x : Str} (h : peB K x = true) : PeK K x := by
  unfold peB at h
  simp only [Bool.and_eq_true] at h
  obtain ⟨h1, h2, h3, h4⟩ := h
  refine ⟨He.eqO_ok h1, He.eqO_ok h2, h3, ?_⟩
  split at h4
  · rename_i n e
    rw [e, beq_iff_eq.mp h4]
  · cases h4
def exmB (K : PySem.W.Frag) (L : List Str) : Bool := L.all fun a => L.all fun b => decide (PySem.W.exmOne K (.ref (He.ga K a)) (.ref (He.ga K b)) = some (decide (a = b)))
theorem exmB_ok {K : PySem.W.Frag} {L : List Str} (h : exmB K L = true) {a b : Str} (ha : a ∈ L) (hb : b ∈ L) : PySem.W.exmOne K (.ref (He.ga K a)) (.ref (He.ga K b)) = some (decide (a = b)) :=
  of_decide_eq_true (List.all_eq_true.mp (List.all_eq_true.mp h a ha) b hb)

/-! ### their making -/
section
variable {X : Cx} {W : WX} {fr : Bool} {k : Nat}
/-- Base.__init__(self, ..), the base a class of the program's own that has ValueError's -/
theorem pe_baseinit {x : Str} {p1 p2 pos : Pos} {e : Expr} {es : List Expr} {ta : TA} {pl : Sem Bool} (T : PeK X.K x) (hg : Gl X x) (hm : X.mg x = some (.ref (He.ga X.K x))) (ha : PA X (e :: es) ta)
    (hc : eval (.Call (.Attribute (.Name x p1) "__init__" p2) (e :: es) [] pos) X.env = (do
      let ov ← eval (.Name x p1) X.env
      standAt p2.atName
      let (f, first) ← holding [ov] (getMethod ov "__init__" pl)
      callWith pos f first (backTo pos (starEach (e :: es) X.env)) (backToKw pos (keywordEach [] X.env))) := by rfl)
    (he : starEach (e :: es) X.env = (false, eval e X.env) :: starEach es X.env := by rfl) (hpl : (backTo pos (starEach es X.env)).any (·.1) = false := by rfl) (hdb : (x == ("__debug__" : Str)) = false := by decide) :
    PE X (.Call (.Attribute (.Name x p1) "__init__" p2) (e :: es) [] pos) (tVeI X.K ta) := ⟨fun pins s σ H Q I h => by
  refine PySem.W.methodCall_KW (ld_glob I hg hm ?_ hdb) hc
  refine PySem.W.method_cls I.kIn T.ga (PySem.W.cls_value I.kIn T.rd T.at_ (by decide +kernel) ?_)
  refine PyProof.Rows.callWith_method1 (thn (ha.run pos pins _ σ H _ (I.tok _) h) fun us s1 r => ?_) he hpl
  obtain ⟨vs, H1, I1, rv, a, C, ws, ev, hl, O, ea, q⟩ := r
  subst ev
  cases rv with
  | cons r1 r2 =>
    cases r1
    refine oinit_ok O I1 ea ?_ fun s' J => ⟨.non, H1, J, rfl, q⟩
    have z := Paired.length r2
    rw [sizeLine_eq]
    omega⟩
def spI (K : PySem.W.Frag) (fld : Str) : Sp := fun vs H Q _ => ∃ (a C : Addr) (z : Str), vs = [.ref a, .str z] ∧ z.length ≤ 1000 ∧ OexC K C ∧ PySem.W.findIn K (.ref C) fld = some none ∧ H a = some (exo a C none) ∧
  ∀ dx, H dx = none → dx ≠ a → Q .non (upd (upd H dx (exd dx [(fld, .str z)])) a (exo a C (some dx)))
/-- an error class is made so -/
structure Ec (P : Program) (w : World) (K : PySem.W.Frag) (mg : Str → Option Value) (base : Heap) (x fld : Str) : Prop where
  k : EcK K x fld
  at_ : mg x = some (.ref (He.ga K x))
  ok : ∃ (fd : FuncData) (ps : List Str), FnOk P w K mg base (L2.CX P w) 1 (He.ma K (He.ga K x) "__init__") fd ps (spI K fld) ∧ Binds K fd ps []
def sRaise (x fld : Str) (da : Den) : DenS := fun ρ => (da ρ).bindS fun p ρ1 => match p with
  | .str z => if z.length ≤ 1000 then .exc ⟨x, fld, .str z⟩ ρ1 else .bad
  | _ => .bad
theorem ds_raise {x fld : Str} {e : Expr} {p pos pos2 : Pos} {da : Den} (E : Ec X.prog X.w X.K X.mg X.base x fld) (c : Ctx X W k) (ha : DE X W e da) (hk : 2 ≤ k := by decide) (hg : Gl X x := by rfl) (hdb : (x == ("__debug__" : Str)) = false := by decide)
    (he : starEach [e] X.env = (false, eval e X.env) :: starEach [] X.env := by rfl) (hpl : (backTo pos (starEach [] X.env)).any (·.1) = false := by rfl) : DS X W fr (.Raise (some (.Call (.Name x p) [e] [] pos)) none pos2) (sRaise x fld da) := by
  obtain ⟨fd, ps, ok, hb⟩ := E.ok
  refine DS.of (ps_raise c.calm c.tk (pmk_oex E.k.oex E.k.ini E.k.ity ok (c.room.mono hk) hb .nil passL hg E.at_ (pa_cons ha pa_nil he) hdb he hpl)) fun H₀ S₀ M S σ H ρ D ab hp => ?_
  refine XOk.bindS (Rl := rV X.K) canon_ok ab hp fun q ρ1 v S1 H1 _ a1 _ r1 hp => ?_
  cases q with
  | str z =>
    have hp : SPost X.K X.mg W fr H₀ S₀ M (if z.length ≤ 1000 then .exc ⟨x, fld, .str z⟩ ρ1 else .bad) D := hp
    by_cases hz : z.length ≤ 1000
    · rw [if_pos hz] at hp
      cases r1
      refine ⟨by simp, fun a ha => ⟨a, He.ga X.K x, z, rfl, hz, E.k.oex, E.k.fld, upd_same, fun dx hd hne => ⟨rfl, dx, [(fld, .str z)], upd_same, ?_, ?_, ?_⟩⟩⟩
      · rw [upd_ne hne, upd_same]
      · rw [upd_ne hne] at hd
        exact hd
      · rw [upd_ne hne] at hd
        have e1 : upd (del (upd (upd (upd H1 a (exo a (He.ga X.K x) none)) dx (exd dx [(fld, .str z)])) a (exo a (He.ga X.K x) (some dx))) a) dx (.xd [(fld, .str z)]) = upd H1 dx (.xd [(fld, .str z)]) := by
          funext b
          by_cases h1 : b = dx
          · subst h1; rw [upd_same, upd_same]
          · rw [upd_ne h1, upd_ne h1]
            by_cases h2 : b = a
            · subst h2; rw [del_same, ha]
            · rw [del_ne h2, upd_ne h2, upd_ne h1, upd_ne h2]
        rw [e1]
        exact hp _ _ S1 σ _ (a1.step (Step.hid a1.sub hd)) ⟨_, dx, .str z, E.at_, rfl, rfl, upd_same, .str z⟩
    · rw [if_neg hz] at hp
      exact hp.elim
  | _ => exact hp.elim

/-! ### try: .. except X as n: return n.field .. -/
def sTry (cs : List Str) (fld : Str) (i : Nat) (body : DenS) : DenS := fun ρ => match body ρ with
  | .exc x ρ1 => if (cs.contains x.cls && decide (x.fld = fld)) && decide (i < ρ1.length) then .rt x.val (ρ1.set i .un) else .bad
  | r => r
theorem clause_in {K : PySem.W.Frag} {mg : Str → Option Value} {L : List Str} {out : WX} {D : Ends} {i : Nat} {x : Exn} {S0 : Hp} {cls : Value} {d : Option Addr} {σ : L2.St} {G : Hp} {fld : Str} (ex : exmB K L = true) (hmg : ∀ y ∈ L, mg y = some (.ref (He.ga K y))) (hx : x.cls ∈ L) (re : ExcRep K mg S0 G x cls d) (hf : x.fld = fld) (hi : i < σ.length) (hD : ∀ v, Rep K S0 x.val v → D.rt v G) :
    ∀ (cs : List Str), (∀ y ∈ cs, y ∈ L) → x.cls ∈ cs → wCl K out D i (cs.map fun y => (.ref (He.ga K y), fun a cls d => tRet (tXf a cls d (He.ga K y) fld (tVar i)))) cls d σ G := by
  obtain ⟨C, dx, v, h1, h2, h3, h4, h5⟩ := re
  have eC : C = He.ga K x.cls := by
    have z := hmg _ hx
    rw [h1] at z
    cases z
    rfl
  subst eC
  subst h2
  intro cs
  induction cs with
  | nil => intro _ h; cases h
  | cons y r ih =>
    intro hs h
    refine ⟨decide (x.cls = y), exmB_ok ex hx (hs y List.mem_cons_self), fun hit a _ => ?_, fun hit => ?_⟩
    · have e : x.cls = y := of_decide_eq_true hit
      subst e
      refine ⟨.ref a, List.getElem?_set_self hi, rfl, rfl, dx, [(x.fld, v)], v, h3, h4, ?_, hD v h5⟩
      rw [← hf]
      simp [List.lookup]
    · have ne : x.cls ≠ y := of_decide_eq_false hit
      exact ih (fun z hz => hs z (List.mem_cons_of_mem _ hz)) (by
        rcases List.mem_cons.mp h with e | e
        · exact absurd e ne
        · exact e)
theorem ds_try {body : List Stmt} {h₀ : ExceptHandler} {hs : List ExceptHandler} {pos : Pos} {n fld : Str} {d : DenS} (L cs : List Str) (i : Nat) (ex : exmB X.K L = true) (hmg : ∀ y ∈ L, X.mg y = some (.ref (He.ga X.K y))) (c : Ctx X W k)
    (hb : ∀ (W' : WX) (pn : List (Addr × Obj)) (xe : Value → Shared → Prop), Ctx (X.tr pn xe) W' k → Po (X.tr pn xe) → DSs (X.tr pn xe) W' false body d) (hcl : Clauses X n (h₀ :: hs) (cs.map fun y => (.ref (He.ga X.K y), fun a cls d => tRet (tXf a cls d (He.ga X.K y) fld (tVar i)))))
    (hsub : ∀ y ∈ cs, y ∈ L := by decide) (hi : X.N[i]? = some n := by rfl) (hln : X.env.kindOf n = some .local := by rfl) (hstk : X.stack = X.env :: X.outer := by rfl) (hfr : X.env.frame = some X.env.locals := by rfl) :
    DS X W false (.Try body (h₀ :: hs) [] [] pos) (sTry cs fld i d) := by
  have hlen : i < X.N.length := (List.getElem?_eq_some_iff.mp hi).1
  have P := ps_tryN (pos := pos) (out := W) c.nd hi hln hstk hfr c.tk (tb := fun W' => canonS X.K X.mg W' false d) (fun W' pn xe tk po => hb W' pn xe ⟨c.calm, c.nd, c.room, tk⟩ po) hcl
  refine ⟨fun pins s σ H D I q => P.run pins s σ H D I ?_⟩
  obtain ⟨H₀, S₀, M, S, ρ, ab, hp⟩ := q
  have hl : ρ.length = X.N.length := by rw [ab.len]; exact I.len
  refine ⟨H₀, S₀, M, S, ρ, ab, ?_⟩
  unfold sTry at hp
  cases e : d ρ with
  | bad => rw [e] at hp; exact hp
  | nx ρ1 => rw [e] at hp; exact hp
  | bk ρ1 => rw [e] at hp; exact hp
  | ct ρ1 => rw [e] at hp; exact hp
  | rt p ρ1 => rw [e] at hp; exact hp
  | exc x ρ1 =>
    simp only [e] at hp
    by_cases hc : ((cs.contains x.cls && decide (x.fld = fld)) && decide (i < ρ1.length)) = true
    · rw [if_pos hc] at hp
      obtain ⟨hc0, hc3⟩ := (Bool.and_eq_true _ _).mp hc
      obtain ⟨hc1, hc2⟩ := (Bool.and_eq_true _ _).mp hc0
      have hm : x.cls ∈ cs := by simpa using hc1
      intro cls dd S' σ' H' a1 re
      have hlt : i < σ'.length := by rw [← a1.len]; exact of_decide_eq_true hc3
      refine clause_in ex hmg (hsub _ hm) re (of_decide_eq_true hc2) hlt (fun v rv => ?_) cs hsub hm
      refine hp v S' σ' H' (a1.forget ?_ fun j s ej hn => ?_) rv
      · rw [List.length_set]; exact a1.len
      · by_cases hj : j = i
        · subst hj
          rw [List.getElem?_set_self (by rw [a1.len]; exact hlt)] at ej
          cases ej
          exact absurd rfl hn
        · rw [List.getElem?_set_ne (Ne.symm hj)] at ej
          exact ⟨ej, rfl⟩
    · rw [if_neg hc] at hp
      exact hp.elim
end
end PL

set_option Elab.async false
set_option linter.all false
set_option maxRecDepth 100000
set_option maxHeartbeats 4000000
namespace PL
open PySem PySem.Spec L2
open PyProof.Rows hiding St
set_option autoImplicit false

/-! ### keys of dicts -/
abbrev KK := Key ⊕ List Key
def key? : PV → Option Key
  | .int i => some (.inl i)
  | .str x => some (.inr x)
  | _ => none
def keys? : List PV → Option (List Key)
  | [] => some []
  | p :: ps => (key? p).bind fun k => (keys? ps).map fun ks => k :: ks
def kk? : PV → Option KK
  | .tup ps => (keys? ps).map .inr
  | p => (key? p).map .inl
def kEq (p q : PV) : Bool := match kk? p, kk? q with
  | some a, some b => decide (a = b)
  | _, _ => false
theorem key?_keyPV (k : Key) : key? (keyPV k) = some k := by cases k <;> rfl
theorem key?_some {p : PV} {k : Key} (h : key? p = some k) : p = keyPV k := by
  cases p <;> simp [key?] at h <;> subst h <;> rfl
theorem keys?_map : ∀ ks : List Key, keys? (ks.map keyPV) = some ks
  | [] => rfl
  | k :: ks => by
    show (key? (keyPV k)).bind (fun k => (keys? (ks.map keyPV)).map fun ks => k :: ks) = _
    rw [key?_keyPV, keys?_map ks]
    rfl
theorem keys?_some : ∀ {ps : List PV} {ks : List Key}, keys? ps = some ks → ps = ks.map keyPV
  | [], _, h => by cases h; rfl
  | p :: ps, ks, h => by
    have h : (key? p).bind (fun k => (keys? ps).map fun ks => k :: ks) = some ks := h
    cases h1 : key? p with
    | none => rw [h1] at h; cases h
    | some k =>
      cases h2 : keys? ps with
      | none => rw [h1, h2] at h; cases h
      | some ks' =>
        rw [h1, h2] at h
        cases h
        rw [key?_some h1, keys?_some h2]
        rfl
theorem kk?_key (k : Key) : kk? (keyPV k) = some (.inl k) := by cases k <;> rfl
theorem kk?_keys (ks : List Key) : kk? (.tup (ks.map keyPV)) = some (.inr ks) := by
  show (keys? (ks.map keyPV)).map Sum.inr = _
  rw [keys?_map]
  rfl
/-- what a dict holds at a key -/
def dLook : List PV → List PV → PV → Option PV
  | k :: ks, v :: vs, q => if kEq k q = true then some v else dLook ks vs q
  | _, _, _ => none
/-- .. and with the key stored -/
def dPut : List PV → List PV → PV → PV → List PV × List PV
  | k :: ks, v :: vs, q, e => if kEq k q = true then (k :: ks, e :: vs) else ((k :: (dPut ks vs q e).1), (v :: (dPut ks vs q e).2))
  | _, _, q, e => ([q], [e])
section
variable {K : PySem.W.Frag} {S : Hp}
theorem Rep.keyV {k : Key} {v : V} (h : Rep K S (keyPV k) v) : v = kV k := by
  cases k <;> cases h <;> rfl
theorem RepL.keyVs : ∀ {ks : List Key} {vs : List V}, RepL K S (ks.map keyPV) vs → vs = ks.map kV
  | [], _, h => by cases h; rfl
  | k :: ks, _, h => by
    cases h with
    | cons h1 h2 => rw [Rep.keyV h1, RepL.keyVs h2]; rfl
theorem dLookK (k : Key) : ∀ {kvs : List (Key × V)} {ps : List PV} {p : PV}, RepL K S ps (kvs.map (·.2)) → dLook (kvs.map fun q => keyPV q.1) ps (keyPV k) = some p → ∃ v, valV kvs k = some v ∧ Rep K S p v
  | [], _, _, h, e => by cases h; cases e
  | (k', v) :: kvs, _, p, h, e => by
    cases h with
    | cons h1 h2 =>
      have e : (if kEq (keyPV k') (keyPV k) = true then some _ else dLook (kvs.map fun q => keyPV q.1) _ (keyPV k)) = some p := e
      have ek : kEq (keyPV k') (keyPV k) = decide (k' = k) := by
        unfold kEq
        rw [kk?_key, kk?_key]
        by_cases hk : k' = k
        · subst hk; simp
        · simp [hk]
      rw [ek] at e
      by_cases hk : k' = k
      · rw [if_pos (decide_eq_true hk)] at e
        cases e
        exact ⟨v, valV_pos hk, h1⟩
      · rw [if_neg (by simp [hk])] at e
        rw [valV_neg hk]
        exact dLookK k h2 e
theorem dLookKn (k : Key) : ∀ {kvs : List (Key × V)} {ps : List PV}, RepL K S ps (kvs.map (·.2)) → dLook (kvs.map fun q => keyPV q.1) ps (keyPV k) = none → valV kvs k = none
  | [], _, h, e => rfl
  | (k', v) :: kvs, _, h, e => by
    cases h with
    | cons h1 h2 =>
      have e : (if kEq (keyPV k') (keyPV k) = true then some _ else dLook (kvs.map fun q => keyPV q.1) _ (keyPV k)) = none := e
      have ek : kEq (keyPV k') (keyPV k) = decide (k' = k) := by
        unfold kEq
        rw [kk?_key, kk?_key]
        by_cases hk : k' = k
        · subst hk; simp
        · simp [hk]
      rw [ek] at e
      by_cases hk : k' = k
      · rw [if_pos (decide_eq_true hk)] at e
        cases e
      · rw [if_neg (by simp [hk])] at e
        rw [valV_neg hk]
        exact dLookKn k h2 e
theorem kEq_keys (a b : List Key) : kEq (.tup (a.map keyPV)) (.tup (b.map keyPV)) = decide (a = b) := by
  unfold kEq
  rw [kk?_keys, kk?_keys]
  by_cases hk : a = b
  · subst hk; simp
  · simp [hk]
theorem dLookT (k : List Key) : ∀ {kvs : List (List Key × V)} {ps : List PV} {p : PV}, RepL K S ps (kvs.map (·.2)) → dLook (kvs.map fun q => .tup (q.1.map keyPV)) ps (.tup (k.map keyPV)) = some p → ∃ v, valV kvs k = some v ∧ Rep K S p v
  | [], _, _, h, e => by cases h; cases e
  | (k', v) :: kvs, _, p, h, e => by
    cases h with
    | cons h1 h2 =>
      have e : (if kEq (.tup (k'.map keyPV)) (.tup (k.map keyPV)) = true then some _ else dLook (kvs.map fun q => .tup (q.1.map keyPV)) _ (.tup (k.map keyPV))) = some p := e
      rw [kEq_keys] at e
      by_cases hk : k' = k
      · rw [if_pos (decide_eq_true hk)] at e
        cases e
        exact ⟨v, valV_pos hk, h1⟩
      · rw [if_neg (by simp [hk])] at e
        rw [valV_neg hk]
        exact dLookT k h2 e
theorem dLookTn (k : List Key) : ∀ {kvs : List (List Key × V)} {ps : List PV}, RepL K S ps (kvs.map (·.2)) → dLook (kvs.map fun q => .tup (q.1.map keyPV)) ps (.tup (k.map keyPV)) = none → valV kvs k = none
  | [], _, h, e => rfl
  | (k', v) :: kvs, _, h, e => by
    cases h with
    | cons h1 h2 =>
      have e : (if kEq (.tup (k'.map keyPV)) (.tup (k.map keyPV)) = true then some _ else dLook (kvs.map fun q => .tup (q.1.map keyPV)) _ (.tup (k.map keyPV))) = none := e
      rw [kEq_keys] at e
      by_cases hk : k' = k
      · rw [if_pos (decide_eq_true hk)] at e
        cases e
      · rw [if_neg (by simp [hk])] at e
        rw [valV_neg hk]
        exact dLookTn k h2 e
/-- the key's kind is the dict's -/
def kOk : Bool → PV → Bool
  | true, .tup _ => true
  | false, .int _ => true
  | false, .str _ => true
  | _, _ => false
/-- a dict shared or owned: looked up -/
inductive DRep (K : PySem.W.Frag) (S H : Hp) : Bool → List PV → List PV → Addr → Prop
  | k {a : Addr} {kvs : List (Key × V)} {ps : List PV} : Rd H a (.dK kvs) → RepL K S ps (kvs.map (·.2)) → DRep K S H false (kvs.map fun p => keyPV p.1) ps a
  | t {a : Addr} {kvs : List (List Key × V)} {ps : List PV} : Rd H a (.dT kvs) → RepL K S ps (kvs.map (·.2)) → DRep K S H true (kvs.map fun p => .tup (p.1.map keyPV)) ps a
theorem DRep.of {H : Hp} {tk : Bool} {ks ps : List PV} {v : V} (s : Same S H) (h : Rep K S (.dic tk ks ps) v) : ∃ a, v = .ref a ∧ DRep K S H tk ks ps a := by
  cases h with
  | dK h1 h2 => exact ⟨_, rfl, .k (h1.same s) h2⟩
  | dT h1 h2 => exact ⟨_, rfl, .t (h1.same s) h2⟩
theorem DRep.own {H : Hp} {tk : Bool} {ks ps : List PV} {b : Addr} {o : HO} (h : H b = some o) (w : OwnO K S (.dic tk ks ps) o) : DRep K S H tk ks ps b := by
  cases tk <;> cases o
  case false.dK kvs =>
    obtain ⟨rfl, h2⟩ := (show ks = kvs.map (fun p => keyPV p.1) ∧ RepL K S ps (kvs.map (·.2)) from w)
    exact .k (.inl h) h2
  case true.dT kvs =>
    obtain ⟨rfl, h2⟩ := (show ks = kvs.map (fun p => .tup (p.1.map keyPV)) ∧ RepL K S ps (kvs.map (·.2)) from w)
    exact .t (.inl h) h2
  all_goals exact w.elim
theorem DRep.isD {H : Hp} {tk : Bool} {ks ps : List PV} {a : Addr} (h : DRep K S H tk ks ps a) : IsD H a := by
  cases h with
  | k h1 _ => exact .inl ⟨_, h1⟩
  | t h1 _ => exact .inr ⟨_, h1⟩
theorem DRep.get {H : Hp} {tk : Bool} {ks ps : List PV} {a : Addr} {q : PV} {y : V} (s : Same S H) (h : DRep K S H tk ks ps a) (ry : Rep K S q y) (hk : (kk? q).isSome = true) (ho : kOk tk q = true) :
    (∀ p, dLook ks ps q = some p → ∃ v, DGet H a y (some v) ∧ Rep K S p v) ∧ (dLook ks ps q = none → DGet H a y none) := by
  have keyed : ∀ k, key? q = some k → (∀ p, dLook ks ps q = some p → ∃ v, DGet H a y (some v) ∧ Rep K S p v) ∧ (dLook ks ps q = none → DGet H a y none) := fun k hq => by
    have eq := key?_some hq
    subst eq
    have ey := ry.keyV
    subst ey
    cases h with
    | k h3 h4 =>
      refine ⟨fun p e => ?_, fun e => ?_⟩
      · obtain ⟨v, z1, z2⟩ := dLookK k h4 e
        exact ⟨v, .inl ⟨_, k, h3, rfl, z1.symm⟩, z2⟩
      · exact .inl ⟨_, k, h3, rfl, (dLookKn k h4 e).symm⟩
    | t h3 h4 =>
      cases k <;> cases ho
  cases q with
  | tup qs =>
    cases ry with
    | tup h1 h2 =>
      rename_i b us
      have hk : ((keys? qs).map (Sum.inr : List Key → KK)).isSome = true := hk
      cases hks : keys? qs with
      | none => rw [hks] at hk; cases hk
      | some k =>
        have eq := keys?_some hks
        subst eq
        have hx := s _ _ h1
        rw [h2.keyVs] at hx
        cases h with
        | t h3 h4 =>
          refine ⟨fun p e => ?_, fun e => ?_⟩
          · obtain ⟨v, z1, z2⟩ := dLookT k h4 e
            exact ⟨v, .inr ⟨_, k, b, h3, rfl, hx, z1.symm⟩, z2⟩
          · exact .inr ⟨_, k, b, h3, rfl, hx, (dLookTn k h4 e).symm⟩
        | k h3 h4 =>
          cases ho
  | int i => exact keyed (.inl i) rfl
  | str x => exact keyed (.inr x) rfl
  | _ => cases hk
end
end PL

set_option Elab.async false
set_option linter.all false
set_option maxRecDepth 100000
set_option maxHeartbeats 4000000
namespace PL
open PySem PySem.Spec L2
open PyProof.Rows hiding St
set_option autoImplicit false

/-! ### dicts: rules -/
def kGood (t : Bool) (q : PV) : Bool := (kk? q).isSome && kOk t q
def gDG : PV → PV → Option PV
  | .dic t ks vs, q => if kGood t q then dLook ks vs q else none
  | _, _ => none
def gDHas (neg : Bool) : PV → PV → Option PV
  | q, .dic t ks vs => if kGood t q then some (.bl (if neg then !(dLook ks vs q).isSome else (dLook ks vs q).isSome)) else none
  | _, _ => none
def gDG2 : PV → PV → PV → Option PV
  | .dic t ks vs, q, d => if kGood t q then some ((dLook ks vs q).getD d) else none
  | _, _, _ => none
def dGet2 (da db dc : Den) : Den := fun ρ => (da ρ).bind fun p ρ1 => (db ρ1).bind fun q ρ2 => (dc ρ2).bind fun d ρ3 => opt (gDG2 p q d) ρ3
def dGet2v (i : Nat) (db dc : Den) : Den := fun ρ => match slot ρ i with
  | some (.dic _ _ _) => (db ρ).bind fun q ρ2 => (dc ρ2).bind fun d ρ3 => match slot ρ3 i with
    | some p => opt (gDG2 p q d) ρ3
    | none => .bad
  | _ => .bad
section
variable {K : PySem.W.Frag} {mg : Str → Option Value} {W : WX}
theorem DRep.got {S H : Hp} {t : Bool} {ks ps : List PV} {a : Addr} {q p : PV} {y : V} (s : Same S H) (h : DRep K S H t ks ps a) (ry : Rep K S q y) (hk : kGood t q = true) (e : dLook ks ps q = some p) : ∃ v, DGet H a y (some v) ∧ Rep K S p v :=
  (h.get s ry ((Bool.and_eq_true _ _).mp hk).1 ((Bool.and_eq_true _ _).mp hk).2).1 p e
theorem DRep.not {S H : Hp} {t : Bool} {ks ps : List PV} {a : Addr} {q : PV} {y : V} (s : Same S H) (h : DRep K S H t ks ps a) (ry : Rep K S q y) (hk : kGood t q = true) (e : dLook ks ps q = none) : DGet H a y none :=
  (h.get s ry ((Bool.and_eq_true _ _).mp hk).1 ((Bool.and_eq_true _ _).mp hk).2).2 e
/-- a dict in a slot, shared or owned -/
theorem Abs.dict {H₀ S₀ : Hp} {M : Addr → Prop} {S H : Hp} {σ : L2.St} {ρ : Env} {i : Nat} {t : Bool} {ks ps : List PV} (a : Abs K H₀ S₀ M S σ H ρ) (e : slot ρ i = some (.dic t ks ps)) :
    ∃ b, σ[i]? = some (some (.ref b)) ∧ DRep K S H t ks ps b := by
  obtain ⟨v, hv, h⟩ := a.lookL e
  rcases h with h | ⟨b, o, rfl, h2, h3, h4⟩
  · obtain ⟨b, rfl, h5⟩ := DRep.of a.sub h
    exact ⟨b, hv, h5⟩
  · exact ⟨b, hv, DRep.own h3 h4⟩
theorem eo_dg {td ty : TE} {da db : Den} (ha : EOk K mg W td da) (hb : EOk K mg W ty db) : EOk K mg W (tDGet td ty) (d2 gDG da db) := fun H₀ S₀ M S σ H ρ Q ab hp =>
  ha.bind (Rl' := rV K) ab hp fun p ρ1 v S1 H1 _ a1 _ r1 hp => hb.bind (Rl' := rV K) a1 hp fun q ρ2 y S2 H2 _ a2 s2 r2 hp => by
    cases p with
    | dic t ks vs =>
      by_cases hk : kGood t q = true
      · cases e : dLook ks vs q with
        | none => simp only [gDG, if_pos hk, e] at hp; exact hp.elim
        | some z =>
          simp only [gDG, if_pos hk, e] at hp
          obtain ⟨a, rfl, h⟩ := DRep.of a2.sub (r1.up s2)
          obtain ⟨v, h1, h2⟩ := h.got a2.sub r2 hk e
          exact ⟨a, v, rfl, h1, hp v S2 H2 a2 h2⟩
      · simp only [gDG, if_neg hk] at hp; exact hp.elim
    | _ => exact hp.elim
theorem eo_dgv {i : Nat} {ty : TE} {db : Den} (hb : EOk K mg W ty db) : EOk K mg W (tDGet (tVar i) ty) (d2l gDG i db) := fun H₀ S₀ M S σ H ρ Q ab hp => by
  unfold d2l at hp
  cases e0 : slot ρ i with
  | none => rw [e0] at hp; exact hp.elim
  | some p0 =>
    rw [e0] at hp
    obtain ⟨v0, _, hv, _⟩ := ab.look e0
    refine ⟨v0, hv, hb.bind (Rl' := rV K) ab hp fun q ρ1 y S1 H1 _ a1 _ r1 hp => ?_⟩
    cases e1 : slot ρ1 i with
    | none => rw [e1] at hp; exact hp.elim
    | some p =>
      rw [e1] at hp
      cases p with
      | dic t ks vs =>
        obtain ⟨b, h1, h2⟩ := a1.dict e1
        rw [hv] at h1
        cases h1
        by_cases hk : kGood t q = true
        · cases e : dLook ks vs q with
          | none => simp only [gDG, if_pos hk, e] at hp; exact hp.elim
          | some z =>
            simp only [gDG, if_pos hk, e] at hp
            obtain ⟨v, h3, h4⟩ := h2.got a1.sub r1 hk e
            exact ⟨b, v, rfl, h3, hp v S1 H1 a1 h4⟩
        · simp only [gDG, if_neg hk] at hp; exact hp.elim
      | _ => exact hp.elim
theorem eo_dget2v {i : Nat} {ty tx : TE} {db dc : Den} (hb : EOk K mg W ty db) (hc : EOk K mg W tx dc) : EOk K mg W (tDGet2 (tVar i) ty tx) (dGet2v i db dc) := fun H₀ S₀ M S σ H ρ Q ab hp => by
  unfold dGet2v at hp
  cases e0 : slot ρ i with
  | none => rw [e0] at hp; exact hp.elim
  | some p0 =>
    rw [e0] at hp
    cases p0 with
    | dic t0 ks0 vs0 =>
      obtain ⟨b, hv, h0⟩ := ab.dict e0
      refine ⟨.ref b, hv, b, rfl, h0.isD, hb.bind (Rl' := rV K) ab hp fun q ρ1 y S1 H1 _ a1 _ r1 hp => hc.bind (Rl' := rV K) a1 hp fun d ρ2 z S2 H2 _ a2 s2 r2 hp => ?_⟩
      cases e1 : slot ρ2 i with
      | none => rw [e1] at hp; exact hp.elim
      | some p =>
        rw [e1] at hp
        cases p with
        | dic t ks vs =>
          obtain ⟨b', h1, h2⟩ := a2.dict e1
          rw [hv] at h1
          cases h1
          by_cases hk : kGood t q = true
          · simp only [gDG2, if_pos hk] at hp
            cases e : dLook ks vs q with
            | none =>
              rw [e] at hp
              exact ⟨none, h2.not a2.sub (r1.up s2) hk e, hp z S2 H2 a2 r2⟩
            | some p' =>
              rw [e] at hp
              obtain ⟨v, h3, h4⟩ := h2.got a2.sub (r1.up s2) hk e
              exact ⟨some v, h3, hp v S2 H2 a2 h4⟩
          · simp only [gDG2, if_neg hk] at hp; exact hp.elim
        | _ => exact hp.elim
    | _ => exact hp.elim
theorem dhas_core {neg : Bool} {i : Nat} {ty : TE} {db : Den} (hb : EOk K mg W ty db) {H₀ S₀ : Hp} {M : Addr → Prop} {S H : Hp} {σ : L2.St} {ρ : Env} {Q : VK} (ab : Abs K H₀ S₀ M S σ H ρ) (hp : Post K mg W (rV K) H₀ S₀ M σ (d2r (gDHas neg) db i ρ) Q) :
    ty σ H fun y H1 => ∃ x, σ[i]? = some (some x) ∧ ∃ a o, x = .ref a ∧ DGet H1 a y o ∧ Q (.bl (if neg then !o.isSome else o.isSome)) H1 :=
  hb.bind (Rl' := rV K) ab hp fun q ρ1 y S1 H1 _ a1 _ r1 hp => by
    cases e1 : slot ρ1 i with
    | none => rw [e1] at hp; exact hp.elim
    | some p =>
      rw [e1] at hp
      cases p with
      | dic t ks vs =>
        obtain ⟨b, h1, h2⟩ := a1.dict e1
        refine ⟨.ref b, h1, b, ?_⟩
        by_cases hk : kGood t q = true
        · simp only [gDHas, if_pos hk] at hp
          cases e : dLook ks vs q with
          | none =>
            rw [e] at hp
            exact ⟨none, rfl, h2.not a1.sub r1 hk e, hp _ S1 H1 a1 (.bl _)⟩
          | some p' =>
            rw [e] at hp
            obtain ⟨v, h3, h4⟩ := h2.got a1.sub r1 hk e
            exact ⟨some v, rfl, h3, hp _ S1 H1 a1 (.bl _)⟩
        · simp only [gDHas, if_neg hk] at hp; cases q <;> exact hp.elim
      | _ => cases q <;> exact hp.elim
theorem eo_din {i : Nat} {ty : TE} {db : Den} (hb : EOk K mg W ty db) : EOk K mg W (tDIn ty (tVar i)) (d2r (gDHas false) db i) := fun H₀ S₀ M S σ H ρ Q ab hp => dhas_core (neg := false) hb ab hp
theorem eo_dnotin {i : Nat} {ty : TE} {db : Den} (hb : EOk K mg W ty db) : EOk K mg W (tDNotIn ty (tVar i)) (d2r (gDHas true) db i) := fun H₀ S₀ M S σ H ρ Q ab hp => dhas_core (neg := true) hb ab hp
end
/-! ### isinstance -/
def tyName : PV → Option String
  | .non => some "NoneType"
  | .bl _ => some "bool"
  | .int _ => some "int"
  | .str _ => some "str"
  | .lst _ => some "list"
  | .tup _ => some "tuple"
  | .ktup _ => some "tuple"
  | .dic false _ _ => some "dict"
  | .dic true _ _ => none
  | .fn _ => none
  | .klst _ => none
def gIsi (T : String) (p : PV) : Option PV := (tyName p).bind fun t => (kitB t T).map .bl
def gIsi2 (T U : String) (p : PV) : Option PV := (tyName p).bind fun t => (kitB t T).bind fun a => (kitB t U).map fun b => .bl (a || b)
section
variable {K : PySem.W.Frag} {mg : Str → Option Value} {W : WX}
theorem Rep.ty {S H : Hp} {p : PV} {v : V} {t : String} (s : Same S H) (r : Rep K S p v) (e : tyName p = some t) : TyX K H v (.type t) := by
  cases r with
  | non => cases e; exact .base .non
  | bl b => cases e; exact .base (.bl b)
  | int i => cases e; exact .base (.int i)
  | str x => cases e; exact .base (.str x)
  | lst h1 h2 => cases e; exact .base (.lst (s _ _ h1))
  | tup h1 h2 => cases e; exact .base (.tup (s _ _ h1))
  | ktup h1 h2 =>
    cases e
    rcases h1 with (h | ⟨o, h⟩) | ⟨o, its, n, h1, h3, _⟩
    · exact .base (.tup (s _ _ h))
    · exact .fTuple (s _ _ h)
    · exact .kTuple h1 h3
  | klst h1 h2 => cases e
  | dK h1 h2 =>
    cases e
    rcases h1 with h1 | ⟨o, h1⟩
    · exact .base (.dK (s _ _ h1))
    · exact .fDict (s _ _ h1)
  | dT h1 h2 => cases e
  | fn a => cases e
theorem eo_isi {T : String} {ta : TE} {da : Den} (ha : EOk K mg W ta da) : EOk K mg W (tCB (rIsi K) (tCons ta (tCons (tC (.ty T)) tNil))) (d1 (gIsi T) da) := fun H₀ S₀ M S σ H ρ Q ab hp =>
  ha.bind (Rl' := rV K) ab hp fun p ρ1 v S1 H1 _ a1 _ r1 hp => by
    cases e : tyName p with
    | none => simp only [gIsi, e] at hp; exact hp.elim
    | some t =>
      cases e2 : kitB t T with
      | none => simp only [gIsi, e, e2, Option.bind_some, Option.map_none] at hp; exact hp.elim
      | some b =>
        simp only [gIsi, e, e2, Option.bind_some, Option.map_some] at hp
        exact ⟨v, .ty T, .type t, .type T, b, rfl, .ty T, r1.ty a1.sub e, kit_ty e2, hp _ S1 H1 a1 (.bl b)⟩
theorem eo_isi2 {T U : String} {ta : TE} {da : Den} (ha : EOk K mg W ta da) : EOk K mg W (tCB (rIsiT K) (tCons ta (tCons (tTup (tCons (tC (.ty T)) (tCons (tC (.ty U)) tNil))) tNil))) (d1 (gIsi2 T U) da) := fun H₀ S₀ M S σ H ρ Q ab hp =>
  ha.bind (Rl' := rV K) ab hp fun p ρ1 v S1 H1 _ a1 _ r1 hp => by
    refine ⟨by show 2 ≤ sizeLine; rw [sizeLine_eq]; decide, fun tp n => ?_⟩
    cases e : tyName p with
    | none => simp only [gIsi2, e] at hp; exact hp.elim
    | some t =>
      cases e2 : kitB t T with
      | none => simp only [gIsi2, e, e2, Option.bind_some, Option.bind_none] at hp; exact hp.elim
      | some a =>
        cases e3 : kitB t U with
        | none => simp only [gIsi2, e, e2, e3, Option.bind_some, Option.map_none] at hp; exact hp.elim
        | some b =>
          simp only [gIsi2, e, e2, e3, Option.bind_some, Option.map_some] at hp
          have st := Step.hid (o := .tup [.ty T, .ty U]) a1.sub n
          refine ⟨v, tp, [.ty T, .ty U], .type t, [.type T, .type U], a || b, rfl, upd_same, .cons (.ty T) (.cons (.ty U) .nil), r1.ty (st.s.trans st.sub) e, ?_, hp _ S1 _ (a1.step st) (.bl _)⟩
          refine kitAny_cons (kit_ty e2) (fun ea => ?_) fun ea => by rw [ea]; rfl
          rw [ea, Bool.false_or]
          exact kitAny_cons (kit_ty e3) (fun eb => by rw [eb]; exact kitAny_nil) fun eb => eb
/-! ### is of a bool -/
def gIsB (neg : Bool) (c : Bool) : PV → Option PV
  | .bl b => some (.bl (if neg then !decide (b = c) else decide (b = c)))
  | .non => some (.bl neg)
  | _ => none
end
def rIsBN (neg : Bool) : R2 := fun x y H Q => ∃ c : Bool, y = .bl c ∧ ((∃ b : Bool, x = .bl b ∧ Q (.bl (if neg then !decide (b = c) else decide (b = c))) H) ∨ (x = .non ∧ Q (.bl neg) H))
section
variable {X : Cx} {W : WX} {fr : Bool} {k : Nat} {pos p p2 p3 apos cpos np : Pos} {e a b : Expr} {es rest : List Expr} {da db dc : Den} {dl : DenL} {x : Str}
theorem op_isBN : OpR X (compareOp .Is) (rIsBN false) := by
  intro pins s σ H x y v u Q I rx ry h
  obtain ⟨c, rfl, h⟩ := h
  rcases h with ⟨b, rfl, q⟩ | ⟨rfl, q⟩
  · exact op_isBl pins s σ H _ _ v u Q I rx ry ⟨b, c, rfl, rfl, q⟩
  · cases (show v = Value.none from rx)
    cases (show u = Value.bool c from ry)
    exact wpAny_is_other rfl (fun z => by cases z) ⟨.bl false, H, I, rfl, q⟩
theorem op_isNotBN : OpR X (compareOp .IsNot) (rIsBN true) := by
  intro pins s σ H x y v u Q I rx ry h
  obtain ⟨c, rfl, h⟩ := h
  rcases h with ⟨b, rfl, q⟩ | ⟨rfl, q⟩
  · exact op_notBl pins s σ H _ _ v u Q I rx ry ⟨b, c, rfl, rfl, q⟩
  · cases (show v = Value.none from rx)
    cases (show u = Value.bool c from ry)
    exact wpAny_isNot_other rfl (fun z => by cases z) ⟨.bl true, H, I, rfl, q⟩
def gIsBB (neg : Bool) : PV → PV → Option PV
  | p, .bl c => gIsB neg c p
  | _, _ => none
theorem v2_isB {K : PySem.W.Frag} {neg : Bool} : V2 K (rIsBN neg) (gIsBB neg) := by
  intro S H x y p q z Q s rx ry e k
  cases q with
  | bl c =>
    cases ry
    cases p with
    | bl b => cases rx; cases e; exact ⟨c, rfl, .inl ⟨b, rfl, k _ S H (Step.refl s) (.bl _)⟩⟩
    | non => cases rx; cases e; exact ⟨c, rfl, .inr ⟨rfl, k _ S H (Step.refl s) (.bl _)⟩⟩
    | _ => cases e
  | _ => cases p <;> cases e
theorem isB_sc {neg : Bool} : ∀ p q z, gIsBB neg p q = some z → z.sc = true := by
  intro p q z e
  cases q <;> cases p <;> first | (cases e; done) | (cases e; rfl)
theorem cr_isB : CmpR X .Is (rIsBN false) (gIsBB false) := ⟨op_isBN, v2_isB, isB_sc⟩
theorem cr_isNotB : CmpR X .IsNot (rIsBN true) (gIsBB true) := ⟨op_isNotBN, v2_isB, isB_sc⟩
theorem de_isi (T : String) (B : Bi X.mg) (ha : DE X W e da) (hmT : X.mg x = none) (hb : bootBuiltins x = some (.type T)) (hg : Gl X "isinstance" := by rfl) (hgT : Gl X x := by rfl) (hn : x ≠ "__name__" := by decide) (hdb : (x == ("__debug__" : Str)) = false := by decide)
    (h1 : starEach [e, .Name x p2] X.env = (false, eval e X.env) :: starEach [.Name x p2] X.env := by rfl) (h2 : starEach [.Name x p2] X.env = (false, eval (.Name x p2) X.env) :: starEach [] X.env := by rfl) (hpl : (backTo pos (starEach [.Name x p2] X.env)).any (·.1) = false := by rfl) :
    DE X W (.Call (.Name "isinstance" p) [e, .Name x p2] [] pos) (d1 (gIsi T) da) :=
  DE.of (pe_callB call_isi hg B.isinstance (by decide +kernel) (pa_cons ha (pa_cons (pe_bltn (v := .ty T) hgT hmT hb rfl hn hdb) pa_nil h2) h1) (by decide) (by decide) h1 hpl) (eo_isi canon_ok)
theorem de_isi2 (T U : String) {y : Str} {j : Nat} {p4 : Pos} (B : Bi X.mg) (ha : DE X W e da) (hmT : X.mg x = none) (hb : bootBuiltins x = some (.type T)) (hmU : X.mg y = none) (hbU : bootBuiltins y = some (.type U)) (hg : Gl X "isinstance" := by rfl) (hgT : Gl X x := by rfl) (hgU : Gl X y := by rfl)
    (hn : x ≠ "__name__" := by decide) (hdb : (x == ("__debug__" : Str)) = false := by decide) (hn2 : y ≠ "__name__" := by decide) (hdb2 : (y == ("__debug__" : Str)) = false := by decide)
    (h1 : starEach [e, .Tuple [.Name x p2, .Name y p3] j p4] X.env = (false, eval e X.env) :: starEach [.Tuple [.Name x p2, .Name y p3] j p4] X.env := by rfl) (h2 : starEach [.Tuple [.Name x p2, .Name y p3] j p4] X.env = (false, eval (.Tuple [.Name x p2, .Name y p3] j p4) X.env) :: starEach [] X.env := by rfl)
    (h3 : starEach [.Name x p2, .Name y p3] X.env = (false, eval (.Name x p2) X.env) :: starEach [.Name y p3] X.env := by rfl) (h4 : starEach [.Name y p3] X.env = (false, eval (.Name y p3) X.env) :: starEach [] X.env := by rfl) (hpl : (backTo pos (starEach [.Tuple [.Name x p2, .Name y p3] j p4] X.env)).any (·.1) = false := by rfl) :
    DE X W (.Call (.Name "isinstance" p) [e, .Tuple [.Name x p2, .Name y p3] j p4] [] pos) (d1 (gIsi2 T U) da) :=
  DE.of (pe_callB call_isiT hg B.isinstance (by decide +kernel) (pa_cons ha (pa_cons (pe_tup (pa_cons (pe_bltn (v := .ty T) hgT hmT hb rfl hn hdb) (pa_cons (pe_bltn (v := .ty U) hgU hmU hbU rfl hn2 hdb2) pa_nil h4) h3)) pa_nil h2) h1) (by decide) (by decide) h1 hpl) (eo_isi2 canon_ok)
/-! ### dicts: syntax -/
theorem de_dgv (i : Nat) (c : Ctx X W k) (ho : PE X (.Name x p) (tVar i)) (hi : DE X W e db) (hs : NoSl e := by intro _ _; rfl) : DE X W (.Subscript (.Name x p) e pos) (d2l gDG i db) := DE.of (pe_dget (by have := c.hu; omega) ho hi hs) (eo_dgv canon_ok)
theorem de_dget2v {f : Expr} (i : Nat) (c : Ctx X W k) (ho : PE X (.Name x np) (tVar i)) (he : DE X W e db) (hf : DE X W f dc) (m : M2 X (.Name x np) "get" apos e f cpos := by exact ⟨rfl, rfl, rfl, rfl⟩) : DE X W (.Call (.Attribute (.Name x np) "get" apos) [e, f] [] cpos) (dGet2v i db dc) :=
  DE.of (pe_dget2 (by have := c.hu; omega) ho he hf m) (eo_dget2v canon_ok canon_ok)
theorem de_din (i : Nat) (c : Ctx X W k) (he : DE X W e db) (ho : PE X (.Name x p) (tVar i)) (h1 : behindInMarks .In (.Name x p) = false := by rfl) : DE X W (.Compare e [.In] [.Name x p] pos) (d2r (gDHas false) db i) := DE.of (pe_cmp (pc_din (by have := c.hu; omega) he ho) h1) (eo_din canon_ok)
theorem de_dnotin (i : Nat) (c : Ctx X W k) (he : DE X W e db) (ho : PE X (.Name x p) (tVar i)) (h1 : behindInMarks .NotIn (.Name x p) = false := by rfl) : DE X W (.Compare e [.NotIn] [.Name x p] pos) (d2r (gDHas true) db i) := DE.of (pe_cmp (pc_dnotin (by have := c.hu; omega) he ho) h1) (eo_dnotin canon_ok)
theorem dt_din (i : Nat) (c : Ctx X W k) (he : DE X W e db) (ho : PE X (.Name x p) (tVar i)) (h1 : behindInMarks .In (.Name x p) = false := by rfl) : DT X W (.Compare e [.In] [.Name x p] pos) (bVal (d2r (gDHas false) db i)) := DT.of (pt_cmp (pc_din (by have := c.hu; omega) he ho) h1) (to_val (eo_din canon_ok))
theorem dt_dnotin (i : Nat) (c : Ctx X W k) (he : DE X W e db) (ho : PE X (.Name x p) (tVar i)) (h1 : behindInMarks .NotIn (.Name x p) = false := by rfl) : DT X W (.Compare e [.NotIn] [.Name x p] pos) (bVal (d2r (gDHas true) db i)) := DT.of (pt_cmp (pc_dnotin (by have := c.hu; omega) he ho) h1) (to_val (eo_dnotin canon_ok))
/-! ### join -/
def gJoin : PV → PV → Option PV
  | .str a, .lst ps => (strs? ps).bind fun ys => if (ys.map (·.length)).sum + ys.length * a.length ≤ 16777216 then some (.str (Txt.join a ys)) else none
  | _, _ => none
def dJoin (da db : Den) : Den := fun ρ => (da ρ).bind fun p ρ1 => match p with
  | .str _ => (db ρ1).bind fun q ρ2 => opt (gJoin p q) ρ2
  | _ => .bad
theorem de_join {o : Expr} (ho : DE X W o da) (he : DE X W e db) (hs : starEach [e] X.env = [(false, eval e X.env)] := by rfl) (hbase : attributeBase o "join" X.env (eval o X.env) = eval o X.env := by rfl) (hline : (apos.endLine == pos.line) = true := by rfl) :
    DE X W (.Call (.Attribute o "join" apos) [e] [] pos) (dJoin da db) := DE.of (pe_join ho he hs hbase hline) fun H₀ S₀ M S σ H ρ Q ab hp =>
  canon_ok.bind (Rl := rV X.K) (Rl' := rV X.K) ab hp fun p ρ1 v S1 H1 _ a1 _ r1 hp => by
    cases p with
    | str a =>
      cases r1
      refine ⟨⟨a, rfl⟩, canon_ok.bind (Rl := rV X.K) (Rl' := rV X.K) a1 hp fun q ρ2 y S2 H2 _ a2 s2 r2 hp => ?_⟩
      cases q with
      | lst ps =>
        cases e1 : strs? ps with
        | none => simp only [gJoin, e1] at hp; exact hp.elim
        | some ys =>
          by_cases hz : (ys.map (·.length)).sum + ys.length * a.length ≤ 16777216
          · simp only [gJoin, e1, Option.bind_some, if_pos hz] at hp
            cases r2 with
            | lst h1 h2 =>
              rw [h2.strs e1] at h1
              exact ⟨a, _, ys, rfl, rfl, .inl (.inl (.inl (a2.sub _ _ h1))), hz, hp _ S2 H2 a2 (.str _)⟩
          · simp only [gJoin, e1, Option.bind_some, if_neg hz] at hp; exact hp.elim
      | _ => exact hp.elim
    | _ => exact hp.elim
/-! ### list(x), tuple(x) -/
def gListOf : List PV → Option PV
  | [.lst ps] => some (.lst ps)
  | [.tup ps] => some (.lst ps)
  | [.ktup ps] => some (.lst ps)
  | _ => none
theorem vn_listOf {K : PySem.W.Frag} : VNF K (fun xs H Q => ∃ p ys, xs = [.ref p] ∧ (SqL K H p ys ∨ SqT K H p ys) ∧ ∀ l, H l = none → Q (.ref l) (upd H l (.lst ys))) gListOf := by
  intro S H xs ps z Q s rx e k
  unfold gListOf at e
  split at e
  · cases rx with
    | cons r1 r2 =>
      cases r2; cases e
      cases r1 with
      | lst h1 h2 => exact ⟨_, _, rfl, .inl (.inl (.inl (s _ _ h1))), fun l n => k l (.lst _) n h2⟩
  · cases rx with
    | cons r1 r2 =>
      cases r2; cases e
      cases r1 with
      | tup h1 h2 => exact ⟨_, _, rfl, .inr (.inl (.inl (s _ _ h1))), fun l n => k l (.lst _) n h2⟩
  · cases rx with
    | cons r1 r2 =>
      cases r2; cases e
      cases r1 with
      | ktup h1 h2 => exact ⟨_, _, rfl, .inr (Same.tupK s h1), fun l n => k l (.lst _) n h2⟩
  · cases e
theorem df_listOf (B : Bi X.mg) (ha : DA X W (e :: es) dl) (hg : Gl X "list" := by rfl) (he : starEach (e :: es) X.env = (false, eval e X.env) :: starEach es X.env := by rfl) (hpl : (backTo pos (starEach es X.env)).any (·.1) = false := by rfl) :
    DF X W (.Call (.Name "list" p) (e :: es) [] pos) (dN gListOf dl) := DF.of (pe_callTy call_list_of hg B.list (by decide +kernel) ha (by decide) (by decide) he hpl) (fo_n canon_ok vn_listOf)
end
end PL

set_option Elab.async false
set_option linter.all false
set_option maxRecDepth 100000
set_option maxHeartbeats 4000000
namespace PL
open PySem PySem.Spec L2
open PyProof.Rows hiding St
set_option autoImplicit false

/-! ### displays of dicts -/
def dPairs : List (Den × Den) → Env → Option (List (PV × PV) × Env)
  | [], ρ => some ([], ρ)
  | (dk, dv) :: r, ρ => match dk ρ with
    | .ok p ρ1 => match dv ρ1 with
      | .ok q ρ2 => (match dPairs r ρ2 with
        | some (ps, ρ3) => some ((p, q) :: ps, ρ3)
        | none => none)
      | _ => none
    | _ => none
def nodupK : List PV → Bool
  | [] => true
  | p :: ps => (key? p).isSome && !ps.any (fun q => kEq q p) && nodupK ps
def dDisp (prs : List (Den × Den)) : Den := fun ρ => match dPairs prs (lockE [] ρ) with
  | some (ps, ρ2) => if noOw ρ2 && nodupK (ps.map (·.1)) && decide (ps.length ≤ 15) then .ok (.dic false (ps.map (·.1)) (ps.map (·.2))) (backE [] ρ ρ2) else .bad
  | none => .bad
section
variable {K : PySem.W.Frag} {mg : Str → Option Value} {W : WX}
theorem mergeK_nodup : ∀ (more acc : List (Key × V)), nodupK (more.map fun p => keyPV p.1) = true → (∀ p ∈ more, ∀ q ∈ acc, q.1 ≠ p.1) → mergeK acc more = acc ++ more
  | [], acc, _, _ => by simp [mergeK]
  | p :: r, acc, h, h2 => by
    have h : ((key? (keyPV p.1)).isSome && !(r.map fun q => keyPV q.1).any (fun q => kEq q (keyPV p.1)) && nodupK (r.map fun q => keyPV q.1)) = true := h
    simp only [Bool.and_eq_true, Bool.not_eq_true'] at h
    obtain ⟨⟨_, h3⟩, h4⟩ := h
    have e : putK acc p.1 p.2 = acc ++ [(p.1, p.2)] := by
      unfold putK
      rw [if_neg]
      intro z
      obtain ⟨q, hq, e⟩ := List.any_eq_true.mp z
      exact h2 p List.mem_cons_self q hq (of_decide_eq_true e)
    show mergeK (putK acc p.1 p.2) r = _
    rw [e, mergeK_nodup r _ h4 fun q hq w hw => ?_, List.append_assoc]
    · rfl
    · rcases List.mem_append.mp hw with hw | hw
      · exact h2 q (List.mem_cons_of_mem _ hq) w hw
      · rw [List.mem_singleton.mp hw]
        intro z
        have := List.any_eq_false.mp h3 (keyPV q.1) (List.mem_map.mpr ⟨q, hq, rfl⟩)
        apply this
        unfold kEq
        rw [kk?_key, kk?_key]
        have z' : p.1 = q.1 := z
        simp [z']
inductive POk (K : PySem.W.Frag) (mg : Str → Option Value) (W : WX) : List (TE × TE) → List (Den × Den) → Prop
  | nil : POk K mg W [] []
  | cons {tk tv : TE} {dk dv : Den} {r : List (TE × TE)} {dr : List (Den × Den)} : EOk K mg W tk dk → EOk K mg W tv dv → POk K mg W r dr → POk K mg W ((tk, tv) :: r) ((dk, dv) :: dr)
theorem pairs_run {trs : List (TE × TE)} {prs : List (Den × Den)} (h : POk K mg W trs prs) : ∀ {H₀ S₀ : Hp} {M : Addr → Prop} {S H : Hp} {σ : L2.St} {ρ ρ2 : Env} {ps : List (PV × PV)} {Q : List (V × V) → Hp → Prop}, Abs K H₀ S₀ M S σ H ρ → dPairs prs ρ = some (ps, ρ2) →
    (∀ vs S' H', Abs K H₀ S₀ M S' σ H' ρ2 → Same S S' → RepL K S' (ps.map (·.1)) (vs.map (·.1)) → RepL K S' (ps.map (·.2)) (vs.map (·.2)) → Q vs H') → tPairs trs σ H Q := by
  induction h with
  | nil =>
    intro H₀ S₀ M S H σ ρ ρ2 ps Q ab e hq
    cases e
    exact hq [] S H ab (Same.refl _) .nil .nil
  | @cons tk tv dk dv r dr h1 h2 _ ih =>
    intro H₀ S₀ M S H σ ρ ρ2 ps Q ab e hq
    unfold dPairs at e
    cases e1 : dk ρ with
    | bad => simp only [e1] at e; cases e
    | exc x ρ1 => simp only [e1] at e; cases e
    | ok p ρ1 =>
      simp only [e1] at e
      cases e2 : dv ρ1 with
      | bad => simp only [e2] at e; cases e
      | exc x ρ1 => simp only [e2] at e; cases e
      | ok q ρ3 =>
        simp only [e2] at e
        cases e3 : dPairs dr ρ3 with
        | none => simp only [e3] at e; cases e
        | some pr =>
          obtain ⟨ps', ρ4⟩ := pr
          simp only [e3] at e
          cases e
          refine h1 H₀ S M S σ H ρ _ ab.rebase ?_
          rw [e1]
          intro v S1 H1 a1 r1
          refine h2 H₀ S1 M S1 σ H1 ρ1 _ a1.rebase ?_
          rw [e2]
          intro u S2 H2 a2 r2
          have a2' := ab.unbase (a1.unbase a2)
          refine ih (ab.unbase (a1.unbase a2)) e3 fun vs S3 H3 a3 s3 r3 r4 => hq ((v, u) :: vs) S3 H3 a3 ((a1.base.trans a2.base).trans s3) (.cons ?_ r3) (.cons ?_ r4)
          · exact (Rep.up (a2.base.trans s3) r1)
          · exact Rep.up s3 r2
theorem nodupK_keys : ∀ {ps : List PV}, nodupK ps = true → ∃ ks : List Key, ps = ks.map keyPV
  | [], _ => ⟨[], rfl⟩
  | p :: ps, h => by
    have h : ((key? p).isSome && !ps.any (fun q => kEq q p) && nodupK ps) = true := h
    simp only [Bool.and_eq_true] at h
    obtain ⟨ks, e⟩ := nodupK_keys h.2
    obtain ⟨k, hk⟩ := Option.isSome_iff_exists.mp h.1.1
    exact ⟨k :: ks, by rw [key?_some hk, e]; rfl⟩
theorem fo_disp {trs : List (TE × TE)} {prs : List (Den × Den)} (h : POk K mg (fun _ _ _ _ => False) trs prs) : FOk K mg W (tDisp trs) (dDisp prs) := fun H₀ S₀ M S σ H ρ Q ab hp => by
  unfold dDisp at hp
  cases e : dPairs prs (lockE [] ρ) with
  | none => rw [e] at hp; exact hp.elim
  | some pr =>
    obtain ⟨ps, ρ2⟩ := pr
    rw [e] at hp
    by_cases hc : (noOw ρ2 && nodupK (ps.map (·.1)) && decide (ps.length ≤ 15)) = true
    · simp only [if_pos hc] at hp
      simp only [Bool.and_eq_true] at hc
      obtain ⟨⟨hc0, hc1⟩, hc2⟩ := hc
      intro D hD
      have ab2 := ab.step (Step.hid (o := .dK []) ab.sub hD)
      have aE := ab2.enter []
      have nL : ¬ Lent σ ρ D := fun ⟨i, s, p, h1, h2, h3⟩ => by
        obtain ⟨c, o, k1, _, _, _, k5, _⟩ := ab.own i s p h1 h2
        rw [h3] at k1
        cases k1
        rw [hD] at k5; cases k5
      have sD : S D = none := Same.free ab.sub hD
      refine pairs_run h aE e fun vs S' H' a1 s1 r1 r2 => ?_
      have kD : H' D = some (.dK []) := a1.keep D _ upd_same nL
      have sD' : S' D = none := by
        cases q : S' D with
        | none => rfl
        | some o =>
          rcases a1.grow D o q with z | z | ⟨us, z⟩
          · rw [sD] at z; cases z
          · rw [upd_same] at z; cases z
          · subst z
            have z := (a1.sub _ _ q).symm.trans kD
            cases z
      obtain ⟨ks, ek⟩ := nodupK_keys hc1
      rw [ek] at r1
      have ev := r1.keyVs
      have hl : ks.length = vs.length := by
        have := congrArg List.length ev
        simpa using this.symm
      have e3 : ∃ kvs : List (Key × V), vs = kvs.map (fun kv => (kV kv.1, kv.2)) ∧ kvs.map (·.1) = ks ∧ kvs.map (·.2) = vs.map (·.2) := by
        clear r1 r2 ek a1 kD sD' s1
        induction ks generalizing vs with
        | nil => cases vs with
          | nil => exact ⟨[], rfl, rfl, rfl⟩
          | cons v vs => cases hl
        | cons k ks ih => cases vs with
          | nil => cases hl
          | cons v vs =>
            rw [List.map_cons, List.map_cons] at ev
            injection ev with e1 e2
            obtain ⟨kvs, z1, z2, z3⟩ := ih vs e2 (by simpa using hl)
            refine ⟨(k, v.2) :: kvs, ?_, by rw [List.map_cons, z2], by rw [List.map_cons, z3]; rfl⟩
            rw [List.map_cons, ← z1]
            obtain ⟨v1, v2⟩ := v
            have e1 : v1 = kV k := e1
            rw [e1]
      obtain ⟨kvs, z1, z2, z3⟩ := e3
      have hlk : ps.length = kvs.length := by
        have h1 := congrArg List.length ek
        have h2 := congrArg List.length z2
        simp only [List.length_map] at h1 h2
        omega
      refine ⟨kD, kvs, z1, by rw [← hlk]; exact of_decide_eq_true hc2, ?_⟩
      have em : mergeK [] kvs = kvs := by
        rw [mergeK_nodup kvs [] ?_ (fun _ _ q hq => nomatch hq)]
        · rfl
        · have : (kvs.map fun p => keyPV p.1) = ps.map (·.1) := by
            rw [ek, ← z2, List.map_map]
            rfl
          rw [this]; exact hc1
      rw [em]
      have aX := ab2.exit (own := []) a1
      have hn : ∀ (j : Nat) s q, (backE [] ρ ρ2)[j]? = some s → s.own? = some q → σ[j]? ≠ some (some (.ref D)) := fun j s q ej es z => by
        obtain ⟨c, o, k1, k2, k3, k4, k5, k6⟩ := aX.own j s q ej es
        rw [z] at k1
        cases k1
        rcases backE_get ej (by intro w; subst w; cases es) with ⟨_, q', hq, _⟩ | ⟨h1, t, t', h2, h3, h4⟩
        · subst hq; cases es
        · have ht : ∃ p, t.own? = some p := by
            cases t <;> cases t' <;> simp [Sl.back] at h4 <;> subst h4 <;> first | (cases es; done) | exact ⟨_, rfl⟩
          obtain ⟨p, hp'⟩ := ht
          exact nL ⟨j, t, p, h2, hp', z⟩
      have aF := aX.other (o := .dK kvs) (ab.none0 hD) sD' hn
      refine hp (.ref D) S' _ aF ⟨D, .dK kvs, rfl, ab.none0 hD, sD', upd_same, ⟨?_, ?_⟩, hn⟩
      · rw [ek, ← z2, List.map_map]
        rfl
      · rw [z3]; exact r2
    · simp only [if_neg hc] at hp
      exact hp.elim
end
section
variable {X : Cx} {W : WX} {pos : Pos}
theorem Ctx.wf {k : Nat} (c : Ctx X W k) : Ctx X (fun _ _ _ _ => False) k := ⟨c.calm, c.nd, c.room, takes0⟩
/-- the pairs of a display -/
structure DPs (X : Cx) (W : WX) (pos : Pos) (keys : List (Option Expr)) (values : List Expr) (prs : List (Den × Den)) : Prop where
  ex : ∃ trs, PPs X pos keys values trs ∧ POk X.K X.mg (fun _ _ _ _ => False) trs prs
theorem dps_nil : DPs X W pos [] [] [] := ⟨⟨[], pps_nil, .nil⟩⟩
theorem dps_cons {k v : Expr} {ks : List (Option Expr)} {vs : List Expr} {dk dv : Den} {prs : List (Den × Den)} (hk : DE X (fun _ _ _ _ => False) k dk) (hv : DE X (fun _ _ _ _ => False) v dv) (h : DPs X W pos ks vs prs) : DPs X W pos (some k :: ks) (v :: vs) ((dk, dv) :: prs) := by
  obtain ⟨trs, h1, h2⟩ := h.ex
  exact ⟨⟨_, pps_cons hk hv h1, .cons canon_ok canon_ok h2⟩⟩
theorem df_disp {keys : List (Option Expr)} {values : List Expr} {prs : List (Den × Den)} (h : DPs X W pos keys values prs) (hall : keys.all (·.isSome) = true := by rfl) (hl : keys.length = values.length := by rfl) (h0 : keys ≠ [] := by intro z; cases z) (h15 : keys.length ≤ 15 := by decide) :
    DF X W (.Dict keys values pos) (dDisp prs) := by
  obtain ⟨trs, h1, h2⟩ := h.ex
  exact DF.of (pe_disp h1 hall hl h0 h15) (fo_disp h2)
theorem df_dnewK : DF X W (.Dict [] [] pos) (dC (.dic false [] [])) := DF.of pe_dnewK fun H₀ S₀ M S σ H ρ Q ab hp p n => hp _ S _ (ab.fresh (p := .dic false [] []) (o := .dK []) n ⟨rfl, .nil⟩).1 (ab.fresh (p := .dic false [] []) (o := .dK []) n ⟨rfl, .nil⟩).2
theorem df_dnewT : DF X W (.Dict [] [] pos) (dC (.dic true [] [])) := DF.of pe_dnewT fun H₀ S₀ M S σ H ρ Q ab hp p n => hp _ S _ (ab.fresh (p := .dic true [] []) (o := .dT []) n ⟨rfl, .nil⟩).1 (ab.fresh (p := .dic true [] []) (o := .dT []) n ⟨rfl, .nil⟩).2
end
end PL

set_option Elab.async false
set_option linter.all false
set_option maxRecDepth 100000
set_option maxHeartbeats 4000000
namespace PL
open PySem PySem.Spec L2
open PyProof.Rows hiding St
set_option autoImplicit false

/-! ### defs of the head -/
abbrev FnP (K : PySem.W.Frag) (x qual : Str) (st : Stmt) (f : Addr) (fd : FuncData) : Prop := FunD K x qual (defArgs st) (defBody st) (defScope st) [] [] f fd
abbrev Bnd (x qual : Str) (st : Stmt) (ps : List Str) : Prop := ∀ (kV doc pm : Value) (an : Option Addr) (cdv ct : Value) (us : List Value), us.length = ps.length → bindArgs (PySem.W.fnOf x qual (defArgs st) (defBody st) (defScope st) .none kV doc pm an cdv ct) ⟨us, []⟩ = pure (ps.zip us)
theorem fn_okD {P : Program} {w : World} {K : PySem.W.Frag} {mg : Str → Option Value} {base : Heap} {x qual : Str} {st : Stmt} {f : Addr} {fd : FuncData} {N ps : List Str} {k : Nat} {io fr : Bool} {d : DenS} (F : FnP K x qual st f fd) (S : FnScope N ps (defScope st))
    (hl : ps.length ≤ N.length)
    (hbody : ∀ (cdv : Value) (A : Around) (outer : List PySem.Env) (s : Shared) (H : Hp) (E : XK), Ctx (cxOf (L2.CX P w) P w K mg base N qual (defScope st) f cdv A outer s H E) (fun cls dd _ H => E cls dd H) k → Po (cxOf (L2.CX P w) P w K mg base N qual (defScope st) f cdv A outer s H E) →
      DSs (cxOf (L2.CX P w) P w K mg base N qual (defScope st) f cdv A outer s H E) (fun cls dd _ H => E cls dd H) fr (defBody st) d) :
    FnOk P w K mg base (L2.CX P w) (k + 1) f fd ps (spD K mg io fr ps.length (runD io fr ps.length N.length d)) := by
  refine F.ok S (fun vs H Q E h => h.1) fun cdv A outer s H vs Q E hr h => ⟨_, hbody cdv A outer s H E ⟨rfl, S.nd, hr, takes_of rfl rfl rfl rfl⟩ (passes_of rfl), ?_⟩
  exact body_ok canonS_ok hl h
theorem fd_okD {P : Program} {w : World} {K : PySem.W.Frag} {mg : Str → Option Value} {base : Heap} {x qual : Str} {st : Stmt} {f : Addr} {fd : FuncData} {N ps : List Str} {k : Nat} {io fr : Bool} {d : DenS} (F : FnP K x qual st f fd) (hm : mg x = some (.ref f)) (S : FnScope N ps (defScope st))
    (hb : Bnd x qual st ps) (hl : ps.length ≤ N.length)
    (hbody : ∀ (cdv : Value) (A : Around) (outer : List PySem.Env) (s : Shared) (H : Hp) (E : XK), Ctx (cxOf (L2.CX P w) P w K mg base N qual (defScope st) f cdv A outer s H E) (fun cls dd _ H => E cls dd H) k → Po (cxOf (L2.CX P w) P w K mg base N qual (defScope st) f cdv A outer s H E) →
      DSs (cxOf (L2.CX P w) P w K mg base N qual (defScope st) f cdv A outer s H E) (fun cls dd _ H => E cls dd H) fr (defBody st) d) :
    Fd P w K mg base x (k + 1) io fr ps.length (runD io fr ps.length N.length d) := by
  refine ⟨⟨f, fd, ps, fn_okD F S hl hbody, hm, F.kp, F.bindsN hb⟩, fun qs h => ?_⟩
  unfold runD at h
  by_cases e : qs.length = ps.length
  · exact e
  · rw [if_neg e] at h
    exact absurd rfl h
/-- an error class whose __init__ calls its base's and sets the field -/
abbrev rStr : R2 := fun x y H Q => ∃ i j, x = .str i ∧ y = .str j ∧ i.length + j.length ≤ sizeLine ∧ Q (.str (i ++ j)) H
def tIni (K : PySem.W.Frag) (txt fld : Str) : TS := tSeq (tDrop (tVeI K (tCons (tVar 0) (tCons (tOp rStr (tC (.str txt)) (tVar 1)) tNil)))) (tOst K fld (tVar 0) (tVar 1))
theorem ec_ok {P : Program} {w : World} {K : PySem.W.Frag} {mg : Str → Option Value} {base : Heap} {x fld txt p1 p2 qual : Str} {st : Stmt} {fd : FuncData} (E : EcK K x fld) (hm : mg x = some (.ref (He.ga K x)))
    (F : FnP K "__init__" qual st (He.ma K (He.ga K x) "__init__") fd) (S : FnScope [p1, p2] [p1, p2] (defScope st)) (hb : Bnd "__init__" qual st [p1, p2]) (ht : txt.length ≤ 1000)
    (hbody : ∀ (cdv : Value) (A : Around) (outer : List PySem.Env) (s : Shared) (H : Hp) (E : XK), PSs (cxOf (L2.CX P w) P w K mg base [p1, p2] qual (defScope st) (He.ma K (He.ga K x) "__init__") cdv A outer s H E) (defBody st) (tIni K txt fld)) :
    Ec P w K mg base x fld := by
  refine ⟨E, hm, fd, [p1, p2], ?_, F.bindsN hb⟩
  refine F.ok S (fun vs H Q E h => ?_) fun cdv A outer s H vs Q E hr h => ⟨_, hbody cdv A outer s H E, ?_⟩
  · obtain ⟨a, C, z, e, _⟩ := h
    rw [e]; rfl
  · obtain ⟨a, C, z, rfl, hz, O, hf, ea, hq⟩ := h
    refine ⟨_, rfl, _, rfl, txt, z, rfl, rfl, ?_, a, C, [.str (txt ++ z)], rfl, by simp, O, ea, ?_⟩
    · rw [sizeLine_eq]; omega
    · refine ⟨.str z, rfl, .ref a, rfl, a, C, rfl, O, hf, .inl ⟨ea, fun dx hd hne => hq dx hd hne⟩⟩

/-! ### the law's def -/
def spTop (K : PySem.W.Frag) : Sp := fun vs H Q _ => ∃ (a : Addr) (ns : List Int), vs = [.ref a] ∧ ns.length ≤ 63 ∧ SqL K H a (ns.map V.int) ∧ ∀ H', Q (.bl true) H'
theorem repInts {K : PySem.W.Frag} {S : Hp} : ∀ ns : List Int, RepL K S (ns.map PV.int) (ns.map V.int)
  | [] => .nil
  | n :: ns => .cons (.int n) (repInts ns)
theorem fd_top {P : Program} {w : World} {K : PySem.W.Frag} {mg : Str → Option Value} {base : Heap} {k : Nat} {F : List PV → FR} {f : Addr} {fd : FuncData} {ps : List Str} (h : FnOk P w K mg base (L2.CX P w) k f fd ps (spD K mg false false 1 F)) (hF : ∀ ns : List Int, ns.length ≤ 63 → ∃ q, F [.klst (ns.map .int)] = .ok (.bl true) q) :
    FnOk P w K mg base (L2.CX P w) k f fd ps (spTop K) := h.imp fun vs H Q E q => by
  obtain ⟨a, ns, rfl, hl, hs, hq⟩ := q
  obtain ⟨q, e⟩ := hF ns hl
  refine ⟨rfl, H, fun _ => False, [.klst (ns.map .int)], fun _ _ z => z.elim, ⟨rfl, Same.refl _, Same.refl _, fun _ _ e => .inl e, fun _ _ e _ => e, fun b o e => ⟨o, e⟩, fun i p e => ?_, fun i s p e es => ?_, fun i j s t p q c e es => ?_⟩, (fun z => by cases z), ?_⟩
  · cases i with
    | zero =>
      cases e
      exact ⟨.ref a, rfl, .klst hs (repInts ns)⟩
    | succ i => simp [argSl] at e
  · cases i with
    | zero => cases e; cases es
    | succ i => simp [argSl] at e
  · cases i with
    | zero => cases e; cases es
    | succ i => simp [argSl] at e
  · rw [e]
    intro v S' H' _ r
    have r : Rep K S' (.bl true) v := by simpa [RetRep] using r
    cases r
    exact hq H'
end PL
namespace PL
open PySem PySem.Spec L2
open PyProof.Rows hiding St
set_option autoImplicit false
/-! ### except X as n: return n.field -/
theorem clause {X : Cx} {n x fld : Str} {i : Nat} {q q' p1 p2 p3 : Pos} {hs : List ExceptHandler} {cl : List Clause} (E : Ec X.prog X.w X.K X.mg X.base x fld) (h : Clauses X n hs cl) (hg : Gl X x := by rfl) (hN : X.N[i]? = some n := by rfl) (hv : Vis X.env.scope n := by first | exact Or.inl rfl | exact Or.inr (Or.inl rfl) | exact Or.inr (Or.inr rfl))
    (hb : attributeBase (.Name n p1) fld X.env (eval (.Name n p1) X.env) = eval (.Name n p1) X.env := by rfl) (hd : (n == ("__debug__" : Str)) = false := by decide) (hcd : (n == ("__classdict__" : Str)) = false := by decide) (hdb : (x == ("__debug__" : Str)) = false := by decide) :
    Clauses X n (.ExceptHandler (some (.Name x q)) (some n) [.Return (some (.Attribute (.Name n p1) fld p2)) p3] q' :: hs) ((.ref (He.ga X.K x), fun a cls d => tRet (tXf a cls d (He.ga X.K x) fld (tVar i))) :: cl) :=
  .cons ⟨hg, hdb, .inl E.at_⟩ (fun a ob cls d pn hz hf => pss_one (ps_ret (pe_xf E.k.xf E.k.fld hz hf (pe_var hN hv hd hcd) hb))) h
/-- nothing is promised -/
theorem dss_bad {X : Cx} {W : WX} {fr : Bool} {sts : List Stmt} : DSs X W fr sts (fun _ => .bad) := ⟨fun pins s σ H D I q => by
  obtain ⟨_, _, _, _, _, _, z⟩ := q
  exact z.elim⟩
end PL

set_option Elab.async false
set_option linter.all false
set_option maxRecDepth 100000
set_option maxHeartbeats 4000000
namespace PL
open PySem PySem.Spec L2 He
set_option autoImplicit false
/-! ### what is looked at behind the top: the statics too -/
def frY (g : Addr → Option Obj) (n : Nat) : PySem.W.Frag := frG g [cStatics] ++ frT g (asD g n)
theorem frY_in {n : Nat} {h : Heap} : (frY h.get? n).In h := fun a o e => by
  have m := lookup_mem (show (frG h.get? [cStatics] ++ frT h.get? (asD h.get? n)).lookup a = some o from e)
  rcases List.mem_append.mp m with m | m
  · exact frG_mem m
  · exact frG_mem (List.mem_filter.mp m).1
abbrev AlY : Type := AlT × Bool
def obsY (n : Nat) (fa : List Fa) (fn : List DefD) (ex : PySem.W.Frag → Bool) (g : Addr → Option Obj) : AlY := (obsT fa fn [] (frY g n), ex (frY g n))
structure SaysY (fa : List Fa) (fn : List DefD) (ex : PySem.W.Frag → Bool) (w : World) (K : PySem.W.Frag) : Prop where
  t : SaysT fa fn [] w K
  more : ex K = true
def hookY (n : Nat) (fa : List Fa) (fn : List DefD) (ex : PySem.W.Frag → Bool) : PySem.W.Hook where
  α := AlY
  obs := fun s => obsY n fa fn ex s.heap.get?
  val := fun w => (valT fn [] w, true)
  says := fun w h => ∃ K : PySem.W.Frag, K.In h ∧ SaysY fa fn ex w K
  of := fun _ _ e => ⟨_, frY_in, congrArg (fun z : AlY => z.1) e, congrArg (fun z : AlY => z.2) e⟩
  keeps := fun _ _ _ ⟨K, hK, c⟩ k => ⟨K, PySem.W.Frag.In.keeps hK k, c⟩
theorem obsY_eq {n : Nat} {fa : List Fa} {fn : List DefD} {ex : PySem.W.Frag → Bool} {g : Addr → Option Obj} {s : Shared} (h : ∀ a, g a = s.heap.get? a) : obsY n fa fn ex g = (hookY n fa fn ex).obs s := by
  have e : g = s.heap.get? := funext h
  rw [e] <;> rfl
/-- some world's -/
def CXA (P : Program) : CXT := fun outer H s E u s' => ∃ w, L2.CX P w outer H s E u s'
theorem FnOk.anyW {P : Program} {w : World} {K : PySem.W.Frag} {mg : Str → Option Value} {base : Heap} {k : Nat} {f : Addr} {fd : FuncData} {ps : List Str} {sp : Sp} (F : FnOk P w K mg base (L2.CX P w) k f fd ps sp) : FnOk P w K mg base (CXA P) k f fd ps sp :=
  ⟨F.len, fun A outer s H args us vs Q E hr he hb hv hs => codeAny_mono (F.run A outer s H args us vs Q E hr he hb hv hs) fun r s' z => by
    cases r with
    | ok fin => cases fin <;> exact z
    | error e => exact ⟨w, z⟩⟩
theorem CXA.none {P : Program} (H : Hp) (s : Shared) (e : Value) (s' : Shared) (h : CXA P [] H s (fun _ _ _ => False) e s') : False := by
  obtain ⟨w, _, _, _, _, _, _, _, _, _, _, _, _, z⟩ := h
  exact z
end PL

set_option Elab.async false
set_option linter.all false
set_option maxRecDepth 100000
set_option maxHeartbeats 4000000
namespace PL
open PySem PySem.Spec L2
set_option autoImplicit false
/-! ### reading denotations: rules for simp -/
section
variable {p q z : PV} {ρ ρ1 : Env} {i j : Nat} {da db dc : Den} {dt du : DenB} {dl dr : DenL} {dla : DenO} {a b : DenS} {g g' : PV → PV → Option PV} {F : List PV → FR} {s : Sl} {r : Env} {own : List Nat} {dg : DenG} {dh : DenO} {T : String}
@[simp] theorem ap_dC : dC p ρ = .ok p ρ := id rfl
@[simp] theorem ap_dVar : dVar i ρ = match ρ[i]? with
  | some (.sh p) => .ok p ρ
  | some (.ow p) => .ok p (ρ.set i (.sh p))
  | _ => .bad := id rfl
@[simp] theorem ap_slot : slot ρ i = match ρ[i]? with
  | some s => s.pv?
  | none => none := by unfold slot; cases ρ[i]? <;> rfl
@[simp] theorem pv_sh : Sl.pv? (.sh p) = some p := id rfl
@[simp] theorem pv_ow : Sl.pv? (.ow p) = some p := id rfl
@[simp] theorem pv_io : Sl.pv? (.io p) = some p := id rfl
@[simp] theorem ap_own : ownAt ρ i = match ρ[i]? with
  | some (.ow p) => some (.ow p, p)
  | some (.io p) => some (.io p, p)
  | _ => none := id rfl
@[simp] theorem with_ow : Sl.with (.ow p) q = .ow q := id rfl
@[simp] theorem with_io : Sl.with (.io p) q = .io q := id rfl
@[simp] theorem ap_d1 {g : PV → Option PV} : d1 g da ρ = (da ρ).bind fun p ρ1 => opt (g p) ρ1 := id rfl
@[simp] theorem ap_d2 : d2 g da db ρ = (da ρ).bind fun p ρ1 => (db ρ1).bind fun q ρ2 => opt (g p q) ρ2 := id rfl
@[simp] theorem ap_d2l : d2l g i db ρ = match slot ρ i with
  | none => .bad
  | some _ => (db ρ).bind fun q ρ1 => match slot ρ1 i with
    | none => .bad
    | some p => opt (g p q) ρ1 := id rfl
@[simp] theorem ap_d2r : d2r g da i ρ = (da ρ).bind fun p ρ1 => match slot ρ1 i with
    | none => .bad
    | some q => opt (g p q) ρ1 := id rfl
@[simp] theorem ap_d1v {g : PV → Option PV} : d1v g i ρ = match slot ρ i with
    | some p => opt (g p) ρ
    | _ => .bad := id rfl
@[simp] theorem ap_dNil : dNil ρ = .ok [] ρ := id rfl
@[simp] theorem ap_dCons : dCons da dl ρ = (da ρ).bind fun p ρ1 => (dl ρ1).bind fun ps ρ2 => .ok (p :: ps) ρ2 := id rfl
@[simp] theorem ap_dN {g : List PV → Option PV} : dN g dl ρ = (dl ρ).bind fun ps ρ1 => opt (g ps) ρ1 := id rfl
@[simp] theorem ap_dIf : dIf dt da db ρ = (dt ρ).bind fun b ρ1 => if b = true then da ρ1 else db ρ1 := id rfl
@[simp] theorem ap_bAnd : bAnd dt du ρ = (dt ρ).bind fun b ρ1 => if b = true then du ρ1 else .ok false ρ1 := id rfl
@[simp] theorem ap_bOr : bOr dt du ρ = (dt ρ).bind fun b ρ1 => if b = true then .ok true ρ1 else du ρ1 := id rfl
@[simp] theorem ap_bNot : bNot dt ρ = (dt ρ).bind fun b ρ1 => .ok (!b) ρ1 := id rfl
@[simp] theorem ap_bVal : bVal da ρ = (da ρ).bind fun p ρ1 => opt p.bool? ρ1 := id rfl
@[simp] theorem ap_bool (b : Bool) : PV.bool? (.bl b) = some b := id rfl
@[simp] theorem ap_bTru : bTru da ρ = (da ρ).bind fun p ρ1 => opt (truth p) ρ1 := id rfl
@[simp] theorem ap_bTruV : bTruV i ρ = match slot ρ i with
  | some p => opt (truth p) ρ
  | none => .bad := id rfl
@[simp] theorem ap_bYes : bYes ρ = .ok true ρ := id rfl
@[simp] theorem ap_dAndT : dAndT da db ρ = (da ρ).bind fun p ρ1 => match truth p with
  | none => .bad
  | some b => if b = true then db ρ1 else .ok p ρ1 := id rfl
@[simp] theorem ap_dOrT : dOrT da db ρ = (da ρ).bind fun p ρ1 => match truth p with
  | none => .bad
  | some b => if b = true then .ok p ρ1 else db ρ1 := id rfl
@[simp] theorem ap_dNotT : dNotT da ρ = (da ρ).bind fun p ρ1 => opt ((truth p).map fun b => .bl (!b)) ρ1 := id rfl
@[simp] theorem ap_dChain : dChain g g' da db dc ρ = (da ρ).bind fun p ρ1 => (db ρ1).bind fun q ρ2 => match g p q with
  | some (.bl true) => (dc ρ2).bind fun r ρ3 => opt (g' q r) ρ3
  | some (.bl false) => .ok (.bl false) ρ2
  | _ => .bad := id rfl
@[simp] theorem ap_dLst : dLst dl ρ = (dl ρ).bind fun ps ρ1 => if ps.length ≤ sizeLine then .ok (.lst ps) ρ1 else .bad := id rfl
@[simp] theorem ap_dTup : dTup dl ρ = (dl ρ).bind fun ps ρ1 => if ps.length ≤ sizeLine then .ok (.tup ps) ρ1 else .bad := id rfl
@[simp] theorem ap_oNone : oNone ρ = .ok none ρ := id rfl
@[simp] theorem ap_dMut {g : PV → List PV → Option (PV × PV)} : dMut T g i dl ρ = match ownAt ρ i with
  | none => .bad
  | some (_, p0) => if isT T p0 = true then (dl ρ).bind fun ps ρ1 => match ownAt ρ1 i with
    | none => .bad
    | some (s, p) => match g p ps with
      | none => .bad
      | some (q, z) => .ok z (ρ1.set i (s.with q))
    else .bad := id rfl
@[simp] theorem ap_dMut0 {g : PV → List PV → Option (PV × PV)} : dMut0 T g i ρ = match ownAt ρ i with
  | none => .bad
  | some (s, p) => if isT T p = true then (match g p [] with
      | none => .bad
      | some (q, z) => .ok z (ρ.set i (s.with q))) else .bad := id rfl
@[simp] theorem ap_isT {ps : List PV} : isT "list" (.lst ps) = true := id rfl
@[simp] theorem ap_dCall : dCall F dl ρ = (dl ρ).bind fun ps ρ1 => match F ps with
  | .bad => .bad
  | .exc x => .exc x ρ1
  | .ok p _ => .ok p ρ1 := id rfl
@[simp] theorem ap_dCallIo : dCallIo F i dl ρ = match ownAt ρ i with
  | none => .bad
  | some _ => (dl ρ).bind fun ps ρ1 => match ownAt ρ1 i with
    | none => .bad
    | some (s, p) => match F (p :: ps) with
      | .bad => .bad
      | .exc x => .exc x (ρ1.set i .un)
      | .ok z q => .ok z (ρ1.set i (s.with q)) := id rfl
@[simp] theorem ap_dLc {di : DenL} : dLc own di dg dt da ρ = (di ρ).bind fun xs ρ1 => match lcLoop own dg dt da xs (lockE own ρ1) with
  | some (ys, ρ2) => if ys.length ≤ 1000000 then .ok (.lst ys) (backE own ρ1 ρ2) else .bad
  | none => .bad := id rfl
/-! statements -/
@[simp] theorem ap_sNx : sNx ρ = .nx ρ := id rfl
@[simp] theorem ap_sBk : sBk ρ = .bk ρ := id rfl
@[simp] theorem ap_sCt : sCt ρ = .ct ρ := id rfl
@[simp] theorem ap_sSeq : sSeq a b ρ = match a ρ with
  | .nx ρ1 => b ρ1
  | r => r := id rfl
@[simp] theorem ap_sExpr : sExpr da ρ = (da ρ).bindS fun _ ρ1 => .nx ρ1 := id rfl
@[simp] theorem ap_sRet : sRet da ρ = (da ρ).bindS fun p ρ1 => .rt p ρ1 := id rfl
@[simp] theorem ap_sRetN : sRetN ρ = .rt .non ρ := id rfl
@[simp] theorem ap_sRetO : sRetO i ρ = match ρ[i]? with
  | some (.ow p) => .rt p (ρ.set i .un)
  | _ => .bad := id rfl
@[simp] theorem ap_sIf : sIf dt a b ρ = (dt ρ).bindS fun c ρ1 => if c = true then a ρ1 else b ρ1 := id rfl
@[simp] theorem ap_sSet : sSet i da ρ = (da ρ).bindS fun p ρ1 => .nx (ρ1.set i (.sh p)) := id rfl
@[simp] theorem ap_sSetF : sSetF i da ρ = (da ρ).bindS fun p ρ1 => .nx (ρ1.set i (.ow p)) := id rfl
@[simp] theorem ap_sAsg : sAsg da dg ρ = (da ρ).bindS fun p ρ1 => match dg p ρ1 with
  | some ρ2 => .nx ρ2
  | none => .bad := id rfl
@[simp] theorem ap_sAug : sAug i g da ρ = match slot ρ i with
  | none => .bad
  | some _ => (da ρ).bindS fun q ρ1 => match slot ρ1 i with
    | none => .bad
    | some p => match g p q with
      | some z => .nx (ρ1.set i (.sh z))
      | none => .bad := id rfl
@[simp] theorem ap_sSub {g : PV → PV → PV → Option PV} : sSub g i db da ρ = (da ρ).bindS fun e ρ1 => match ownAt ρ1 i with
  | none => .bad
  | some _ => (db ρ1).bindS fun k ρ2 => match ownAt ρ2 i with
    | none => .bad
    | some (s, p) => match g p k e with
      | none => .bad
      | some q => .nx (ρ2.set i (s.with q)) := id rfl
@[simp] theorem ap_sFor {di : DenL} : sFor di dg b ρ = (di ρ).bindS fun xs ρ1 => dLoop dg b xs ρ1 := id rfl
@[simp] theorem ap_sRaise {x f : Str} : sRaise x f da ρ = (da ρ).bindS fun p ρ1 => match p with
  | .str z => if z.length ≤ 1000 then .exc ⟨x, f, .str z⟩ ρ1 else .bad
  | _ => .bad := id rfl
@[simp] theorem ap_gName : gName i p ρ = some (ρ.set i (.sh p)) := id rfl
@[simp] theorem ap_gTup {gs : List PV → Env → Option Env} {ps : List PV} : gTup gs (.tup ps) ρ = gs ps ρ := id rfl
@[simp] theorem ap_gsCons {gs : List PV → Env → Option Env} {ps : List PV} : gsCons dg gs (p :: ps) ρ = (dg p ρ).bind (gs ps) := id rfl
@[simp] theorem ap_gsNil : gsNil [] ρ = some ρ := id rfl
@[simp] theorem ap_iSeq : iSeq da ρ = (da ρ).bind fun p ρ1 => opt (seqOf p) ρ1 := id rfl
@[simp] theorem ap_seqL {ps : List PV} : seqOf (.lst ps) = some ps := id rfl
@[simp] theorem ap_seqT {ps : List PV} : seqOf (.tup ps) = some ps := id rfl
@[simp] theorem ap_seqS {x : Str} : seqOf (.str x) = some (signs x) := id rfl
def rg1 (ps : List PV) (ρ1 : Env) : Rs (List PV) := match ps with
  | [.int j] => if decide (-(2 ^ 62) ≤ j) && decide (j < 2 ^ 62) then .ok (rangeP 0 j.toNat) ρ1 else .bad
  | _ => .bad
def rg2 (ps : List PV) (ρ1 : Env) : Rs (List PV) := match ps with
  | [.int i, .int j] => if (decide (-(2 ^ 62) ≤ i) && decide (i < 2 ^ 62)) && (decide (-(2 ^ 62) ≤ j) && decide (j < 2 ^ 62)) then .ok (rangeP i (j - i).toNat) ρ1 else .bad
  | _ => .bad
@[simp] theorem ap_iR1 : iR1 dl ρ = (dl ρ).bind fun ps ρ1 => rg1 ps ρ1 := id rfl
@[simp] theorem ap_iR2 : iR2 dl ρ = (dl ρ).bind fun ps ρ1 => rg2 ps ρ1 := id rfl
theorem rg1_ok {j : Int} (h1 : -1000000000 ≤ j) (h2 : j ≤ 1000000000) : rg1 [.int j] ρ = .ok (rangeP 0 j.toNat) ρ := by
  have h1 : decide (-(2 ^ 62) ≤ j) = true := decide_eq_true (by omega)
  have h2 : decide (j < 2 ^ 62) = true := decide_eq_true (by omega)
  simp only [rg1, h1, h2]
  rfl
theorem rg2_ok {i j : Int} (h1 : -1000000000 ≤ i) (h2 : i ≤ 1000000000) (h3 : -1000000000 ≤ j) (h4 : j ≤ 1000000000) : rg2 [.int i, .int j] ρ = .ok (rangeP i (j - i).toNat) ρ := by
  have h1 : decide (-(2 ^ 62) ≤ i) = true := decide_eq_true (by omega)
  have h2 : decide (i < 2 ^ 62) = true := decide_eq_true (by omega)
  have h3 : decide (-(2 ^ 62) ≤ j) = true := decide_eq_true (by omega)
  have h4 : decide (j < 2 ^ 62) = true := decide_eq_true (by omega)
  simp only [rg2, h1, h2, h3, h4]
  rfl
theorem rg1_nat {n : Nat} (h : n ≤ 1000000000) : rg1 [.int (n : Int)] ρ = .ok (rangeP 0 n) ρ := by
  rw [rg1_ok (by omega) (by omega)]; rfl
/-! operations -/
@[simp] theorem ap_addI (i j : Int) : gAdd (.int i) (.int j) = some (.int (i + j)) := id rfl
@[simp] theorem ap_addS (x y : Str) : gAdd (.str x) (.str y) = if x.length + y.length ≤ sizeLine then some (.str (x ++ y)) else none := id rfl
@[simp] theorem ap_addL (x y : List PV) : gAdd (.lst x) (.lst y) = if x.length + y.length ≤ sizeLine then some (.lst (x ++ y)) else none := id rfl
@[simp] theorem ap_augI (i j : Int) : gAugAdd (.int i) (.int j) = some (.int (i + j)) := id rfl
@[simp] theorem ap_augS (x y : Str) : gAugAdd (.str x) (.str y) = if x.length + y.length ≤ sizeLine then some (.str (x ++ y)) else none := id rfl
@[simp] theorem ap_subI (i j : Int) : gSub (.int i) (.int j) = some (.int (i - j)) := id rfl
@[simp] theorem ap_mulI (i j : Int) : gMul (.int i) (.int j) = if smallI i || smallI j then some (.int (i * j)) else none := id rfl
@[simp] theorem ap_fdivI (i j : Int) : gFdiv (.int i) (.int j) = if decide (0 < j) && decide (j < 1073741824) then some (.int (i / j)) else none := id rfl
@[simp] theorem ap_modI (i j : Int) : gMod (.int i) (.int j) = if decide (0 < j) then some (.int (i % j)) else none := id rfl
@[simp] theorem ap_powI (i j : Int) : gPow (.int i) (.int j) = if decide (0 ≤ j) && decide (j ≤ 1000000) && decide (i.natAbs < 2 ^ 64) then some (.int (i ^ j.toNat)) else none := id rfl
@[simp] theorem ap_negI (i : Int) : gNeg (.int i) = some (.int (-i)) := id rfl
@[simp] theorem ap_cmpI (f : Int → Int → Bool) (i j : Int) : gCmpI f (.int i) (.int j) = some (.bl (f i j)) := id rfl
@[simp] theorem ap_intI (i : Int) : gInt [.int i] = some (.int i) := id rfl
@[simp] theorem ap_intB (b : Bool) : gInt [.bl b] = some (.int (if b then 1 else 0)) := id rfl
@[simp] theorem ap_absI (i : Int) : gAbs [.int i] = some (.int (if i < 0 then -i else i)) := id rfl
@[simp] theorem ap_max2 (i j : Int) : gMax2 [.int i, .int j] = some (.int (if j > i then j else i)) := id rfl
@[simp] theorem ap_min2 (i j : Int) : gMin2 [.int i, .int j] = some (.int (if j < i then j else i)) := id rfl
@[simp] theorem ap_lenL (ps : List PV) : gLen (.lst ps) = some (.int ps.length) := id rfl
@[simp] theorem ap_lenK (ps : List PV) : gLen (.klst ps) = some (.int ps.length) := id rfl
@[simp] theorem ap_lenT (ps : List PV) : gLen (.tup ps) = some (.int ps.length) := id rfl
@[simp] theorem ap_lenS (x : Str) : gLen (.str x) = if x.length ≤ sizeLine then some (.int x.length) else none := id rfl
@[simp] theorem ap_lenN : gLenN [p] = gLen p := id rfl
@[simp] theorem ap_ixL (ps : List PV) (i : Int) : gIx (.lst ps) (.int i) = atI ps i := id rfl
@[simp] theorem ap_ixT (ps : List PV) (i : Int) : gIx (.tup ps) (.int i) = atI ps i := id rfl
@[simp] theorem ap_ixK (ps : List PV) (i : Int) : gIx (.klst ps) (.int i) = atI ps i := id rfl
@[simp] theorem ap_ixS (z : Str) (i : Int) : gIx (.str z) (.int i) = if z.length ≤ sizeLine then (atI z.cps.toList i).map fun c => .str ⟨#[c]⟩ else none := id rfl
@[simp] theorem ap_app (ps : List PV) (p : PV) : gAppend (.lst ps) [p] = if ps.length < sizeLine then some (.lst (ps ++ [p]), .non) else none := id rfl
@[simp] theorem ap_pop (ps : List PV) : gPop (.lst ps) [] = (ps[ps.length - 1]?).map fun p => (.lst ps.dropLast, p) := id rfl
@[simp] theorem ap_rev (ps : List PV) : gReverse (.lst ps) [] = some (.lst ps.reverse, .non) := id rfl
@[simp] theorem ap_setL (ps : List PV) (i : Int) (e : PV) : gSetL (.lst ps) (.int i) e = (ixN ps.length i).map fun j => .lst (ps.set j e) := id rfl
@[simp] theorem ap_cat (ps qs : List PV) : gCat (.lst ps) (.lst qs) = if ps.length + qs.length ≤ sizeLine then some (.lst (ps ++ qs)) else none := id rfl
end
end PL

set_option Elab.async false
set_option linter.all false
set_option maxRecDepth 100000
set_option maxHeartbeats 4000000
namespace PL
open PySem PySem.Spec L2
set_option autoImplicit false
/-! ### loops -/
theorem seq_nx {a b : DenS} {ρ ρ1 : Env} (h : a ρ = .nx ρ1) : sSeq a b ρ = b ρ1 := by rw [ap_sSeq, h]

theorem dLoop_inv {tgt : DenG} {body : DenS} {items : List PV} (Inv : Nat → Env → Prop) (h : ∀ i x ρ, items[i]? = some x → Inv i ρ → ∃ ρ1 ρ2, tgt x ρ = some ρ1 ∧ (body ρ1 = .nx ρ2 ∨ body ρ1 = .ct ρ2) ∧ Inv (i + 1) ρ2) {ρ0 : Env} (h0 : Inv 0 ρ0) :
    ∃ ρ, dLoop tgt body items ρ0 = .nx ρ ∧ Inv items.length ρ := by
  induction items generalizing Inv ρ0 with
  | nil => exact ⟨ρ0, rfl, h0⟩
  | cons x xs ih =>
    obtain ⟨ρ1, ρ2, e1, e2, h2⟩ := h 0 x ρ0 rfl h0
    obtain ⟨ρ, e3, h3⟩ := ih (fun i => Inv (i + 1)) (fun i y ρ hy hi => h (i + 1) y ρ (by simpa using hy) hi) h2
    refine ⟨ρ, ?_, h3⟩
    unfold dLoop
    rw [e1]
    rcases e2 with e2 | e2
    · simp only [e2]; exact e3
    · simp only [e2]; exact e3
/-- .. or it ends the def -/
theorem dLoop_or {tgt : DenG} {body : DenS} {items : List PV} (Inv : Nat → Env → Prop) (R : RS → Prop) (h : ∀ i x ρ, items[i]? = some x → Inv i ρ → ∃ ρ1, tgt x ρ = some ρ1 ∧ ((∃ ρ2, (body ρ1 = .nx ρ2 ∨ body ρ1 = .ct ρ2) ∧ Inv (i + 1) ρ2) ∨ (∃ ρ2, body ρ1 = .bk ρ2 ∧ R (.nx ρ2)) ∨ (∃ p ρ2, body ρ1 = .rt p ρ2 ∧ R (.rt p ρ2)) ∨ ∃ e ρ2, body ρ1 = .exc e ρ2 ∧ R (.exc e ρ2)))
    (hR : ∀ ρ, Inv items.length ρ → R (.nx ρ)) {ρ0 : Env} (h0 : Inv 0 ρ0) : R (dLoop tgt body items ρ0) := by
  induction items generalizing Inv ρ0 with
  | nil => exact hR _ h0
  | cons x xs ih =>
    obtain ⟨ρ1, e1, h2⟩ := h 0 x ρ0 rfl h0
    unfold dLoop
    rw [e1]
    rcases h2 with ⟨ρ2, e2, h2⟩ | ⟨ρ2, e2, h2⟩ | ⟨p, ρ2, e2, h2⟩ | ⟨e, ρ2, e2, h2⟩
    · have z := ih (fun i => Inv (i + 1)) (fun i y ρ hy hi => h (i + 1) y ρ (by simpa using hy) hi) (fun ρ hi => hR ρ hi) h2
      rcases e2 with e2 | e2
      · simp only [e2]; exact z
      · simp only [e2]; exact z
    · simp only [e2]; exact h2
    · simp only [e2]; exact h2
    · simp only [e2]; exact h2
/-- a comprehension, its items one by one -/
theorem lcLoop_inv {own : List Nat} {tgt : DenG} {test : DenB} {elt : Den} {items : List PV} (Inv : Nat → List PV → Env → Prop)
    (h : ∀ i x ys ρ, items[i]? = some x → Inv i ys ρ → ∃ ρ1, tgt x ρ = some ρ1 ∧ ((∃ ρ2 y ρ3, test ρ1 = .ok true ρ2 ∧ elt ρ2 = .ok y ρ3 ∧ noOw ρ3 = true ∧ Inv (i + 1) (ys ++ [y]) (wipeE own ρ3)) ∨ (∃ ρ2, test ρ1 = .ok false ρ2 ∧ noOw ρ2 = true ∧ Inv (i + 1) ys (wipeE own ρ2)))) :
    ∀ {ρ0 : Env} {ys0 : List PV}, Inv 0 ys0 ρ0 → ∃ ys ρ, lcLoop own tgt test elt items ρ0 = some (ys, ρ) ∧ Inv items.length (ys0 ++ ys) ρ := by
  induction items generalizing Inv with
  | nil => intro ρ0 ys0 h0; exact ⟨[], ρ0, rfl, by rw [List.append_nil]; exact h0⟩
  | cons x xs ih =>
    intro ρ0 ys0 h0
    obtain ⟨ρ1, e1, h2⟩ := h 0 x ys0 ρ0 rfl h0
    have h' : ∀ i y ys ρ, xs[i]? = some y → Inv (i + 1) ys ρ → _ := fun i y ys ρ hy hi => h (i + 1) y ys ρ (by simpa using hy) hi
    rcases h2 with ⟨ρ2, y, ρ3, e2, e3, e4, h2⟩ | ⟨ρ2, e2, e4, h2⟩
    · obtain ⟨ys, ρ, e5, h5⟩ := ih (fun i => Inv (i + 1)) h' h2
      refine ⟨y :: ys, ρ, ?_, by rw [List.append_assoc] at h5; exact h5⟩
      unfold lcLoop
      simp only [e1, e2, e3, e4, e5, if_true]
    · obtain ⟨ys, ρ, e5, h5⟩ := ih (fun i => Inv (i + 1)) h' h2
      refine ⟨ys, ρ, ?_, h5⟩
      unfold lcLoop
      simp only [e1, e2, e4, e5, if_true]
theorem rangeP_get {lo : Int} {n i : Nat} {x : PV} (h : (rangeP lo n)[i]? = some x) : i < n ∧ x = .int (lo + i) := by
  unfold rangeP at h
  rw [List.getElem?_map] at h
  cases e : (List.range n)[i]? with
  | none => rw [e] at h; cases h
  | some c =>
    rw [e] at h; cases h
    have hi := (List.getElem?_eq_some_iff.mp e).1
    rw [List.length_range] at hi
    rw [List.getElem?_range hi] at e
    cases e
    exact ⟨hi, rfl⟩
@[simp] theorem rangeP_len {lo : Int} {n : Nat} : (rangeP lo n).length = n := by simp [rangeP]
/-! ### the deck -/
def den_take : DenS :=
  (sSeq (sIf (bVal (d2 gEq (d1v gLen 0) (dC (.int 0)))) (sRet (dC (.int 0))) sNx)
    (sRet (dMod (dN gInt (dCons (dMut0 "list" gPop 0) dNil)) (dVar 1))))
def F_take : List PV → FR := runD true false 2 2 den_take
def B_deck_2 : DenS :=
  (sSeq (sExpr (dMut "list" gAppend 3 (dCons (dMod (dN gInt (dCons (dVar 7) dNil)) (dC (.int 1000003))) dNil)))
    (sSet 7 (dFdiv (dVar 7) (dC (.int 1000003)))))
def B_deck_3 : DenS :=
  (sSeq (sSet 4 (dMod (dN gInt (dCons (dAdd (dAdd (dMul (dVar 4) (dC (.int 69621))) (dVar 8)) (dC (.int 1))) dNil)) (dC (.int 2147483629))))
    (sExpr (dMut "list" gAppend 3 (dCons (dMod (dN gInt (dCons (dFdiv (dVar 4) (dC (.int 5))) dNil)) (dC (.int 1000003))) dNil))))
def B_deck_1 : DenS :=
  (sSeq (sSet 6 (dC (.int 0)))
    (sSeq (sIf (bVal (d2 gLt (dVar 5) (dN gLenN (dCons (dVar 0) dNil)))) (sSet 6 (d2 gIx (dVar 0) (dVar 5))) sNx)
    (sSeq (sSet 7 (dN gAbs (dCons (dVar 6) dNil)))
    (sIf (bVal (d2 gGe (dVar 7) (dPow (dC (.int 10)) (dC (.int 30))))) (sFor (iR1 (dCons (dVar 2) dNil)) (gName 8) B_deck_2) (sSeq (sSet 4 (dMod (dN gInt (dCons (dAdd (dAdd (dAdd (dMul (dVar 4) (dC (.int 48271))) (dMul (dC (.int 2)) (dVar 7))) (dN gInt (dCons (d2 gLt (dVar 6) (dC (.int 0))) dNil))) (dVar 5)) dNil)) (dC (.int 2147483647))))
    (sFor (iR1 (dCons (dVar 2) dNil)) (gName 8) B_deck_3))))))
def den_deck : DenS :=
  (sSeq (sSetF 3 (dLst dNil))
    (sSeq (sSet 4 (dAdd (dC (.int 7)) (dN gLenN (dCons (dVar 0) dNil))))
    (sSeq (sFor (iR1 (dCons (dVar 1) dNil)) (gName 5) B_deck_1)
    (sSeq (sExpr (dMut0 "list" gReverse 3))
    (sRetO 3)))))
def F_deck : List PV → FR := runD false true 3 9 den_deck
def den_plain (F_plain : List PV → FR) : DenS :=
  (sSeq (sIf (bTru (d1 (gIsi2 "tuple" "list") (dVar 0))) (sRet (dAdd (dLst (dCons (d1 (gIsi "list") (dVar 0)) dNil)) (dLc ([(("item" : Str), 1)].map (·.2)) (iSeq (dVar 0)) (gName 1) bYes (dCall F_plain (dCons (dVar 1) dNil))))) sNx)
    (sSeq (sIf (bOr (bVal (d2 (gIsN false) (dVar 0) (dC .non))) (bTru (d1 (gIsi "bool") (dVar 0)))) (sRet (d2 gIx (dLst (dCons (dC (.str ("None" : Str))) (dCons (dC (.str ("False" : Str))) (dCons (dC (.str ("True" : Str))) dNil)))) (dAdd (dN gInt (dCons (d2 (gIsN true) (dVar 0) (dC .non)) dNil)) (dN gInt (dCons (d2 (gIsBB false) (dVar 0) (dC (.bl true))) dNil))))) sNx)
    (sSeq (sIf (bTru (d1 (gIsi2 "int" "str") (dVar 0))) (sRet (dLst (dCons (d1 (gIsi "str") (dVar 0)) (dCons (dVar 0) dNil)))) sNx)
    (sRet (dC (.str ("another" : Str)))))))
def F_plain_ : Nat → List PV → FR
  | 0 => runD false false 1 2 (fun _ => .bad)
  | n + 1 => runD false false 1 2 (den_plain (F_plain_ n))
/-- a deck: the next card first -/
def dk (ds : List Int) : PV := .lst (ds.reverse.map .int)
def tk : List Int → Int → Int × List Int
  | [], _ => (0, [])
  | x :: ds, m => (x % m, ds)
theorem tk_lt {ds : List Int} {m : Int} (h : 0 < m) : 0 ≤ (tk ds m).1 ∧ (tk ds m).1 < m := by
  cases ds with
  | nil => exact ⟨Int.le_refl 0, h⟩
  | cons x ds => exact ⟨Int.emod_nonneg _ (by omega), Int.emod_lt_of_pos _ h⟩
@[simp] theorem shaped_int (i : Int) : SeqAt.shaped (PV.toD (.int i)) = true := rfl
theorem eqv_int (i j : Int) : PyData.eqv (.int i) (.int j) = decide (i = j) := by
  simp only [PyData.eqv]
  by_cases h : i = j <;> simp [h]
@[simp] theorem pvEq_int (i j : Int) : pvEq (.int i) (.int j) = decide (i = j) := eqv_int i j
@[simp] theorem ap_eqI (i j : Int) : gEq (.int i) (.int j) = some (.bl (decide (i = j))) := by
  unfold gEq; simp
@[simp] theorem ap_neI (i j : Int) : gNe (.int i) (.int j) = some (.bl (!decide (i = j))) := by
  unfold gNe; simp
theorem F_take_eq {ds : List Int} {m : Int} (h : 0 < m) : F_take [dk ds, .int m] = .ok (.int (tk ds m).1) (dk (tk ds m).2) := by
  cases ds with
  | nil => simp [F_take, den_take, runD, argSl, dk, tk, fin0, io0]
  | cons x ds =>
    have h0 : ¬ ((ds.length : Int) + 1 = 0) := by omega
    simp [F_take, den_take, runD, argSl, dk, tk, fin0, io0, h, h0]

theorem ixN_nat {n i : Nat} (h : i < n) : ixN n (i : Int) = some i := by
  unfold ixN
  rw [if_pos (by omega), if_pos (by omega)]
  simp
theorem atI_nat {α : Type} {xs : List α} {i : Nat} (h : i < xs.length) : L2.atI xs (i : Int) = some xs[i] := by
  unfold L2.atI
  rw [ixN_nat h]
  exact List.getElem?_eq_getElem h
/-- the deck's slots -/
def dkE (sc : PV) (c e : Nat) (ds : List Int) (seed : Int) (s5 s6 s7 s8 : Sl) : Env := [.sh sc, .sh (.int c), .sh (.int e), .ow (.lst (ds.map .int)), .sh (.int seed), s5, s6, s7, s8]
theorem app_int {ds : List Int} {x : Int} (h : ds.length < sizeLine) : gAppend (.lst (ds.map .int)) [.int x] = some (.lst ((ds ++ [x]).map .int), .non) := by
  rw [ap_app, List.length_map, if_pos h, List.map_append]; rfl
theorem deck_one2 {sc : PV} {c e i : Nat} {ds : List Int} {seed rest : Int} {s5 s6 s8 : Sl} (h : ds.length < sizeLine) :
    B_deck_2 (dkE sc c e ds seed s5 s6 (.sh (.int rest)) s8) = .nx (dkE sc c e (ds ++ [rest % 1000003]) seed s5 s6 (.sh (.int (rest / 1000003))) s8) := by
  simp [B_deck_2, dkE, h]
theorem deck_in2 {sc : PV} {c e : Nat} {ds : List Int} {seed : Int} {s5 s6 s8 : Sl} {rest : Int} (hr : ds.length + e ≤ sizeLine) (he : e ≤ 1000000000) :
    ∃ (ds' : List Int) (s7 s8' : Sl), ds'.length = ds.length + e ∧ sFor (iR1 (dCons (dVar 2) dNil)) (gName 8) B_deck_2 (dkE sc c e ds seed s5 s6 (.sh (.int rest)) s8) = .nx (dkE sc c e ds' seed s5 s6 s7 s8') := by
  obtain ⟨ρ, h1, ds', rest', s8', h2, h3⟩ := dLoop_inv (tgt := gName 8) (body := B_deck_2) (items := rangeP 0 e) (ρ0 := dkE sc c e ds seed s5 s6 (.sh (.int rest)) s8)
    (fun i ρ => ∃ (ds' : List Int) (rest : Int) (s8 : Sl), ds'.length = ds.length + i ∧ ρ = dkE sc c e ds' seed s5 s6 (.sh (.int rest)) s8)
    (fun i x ρ hx hi => by
      obtain ⟨hie, rfl⟩ := rangeP_get hx
      obtain ⟨ds', rest, s8, hl, rfl⟩ := hi
      exact ⟨_, _, rfl, .inl (deck_one2 (i := 0) (by omega)), ⟨_, _, _, by rw [List.length_append, hl]; rfl, rfl⟩⟩) ⟨ds, rest, s8, rfl, rfl⟩
  refine ⟨ds', .sh (.int rest'), s8', by rw [h2, rangeP_len], ?_⟩
  rw [← h3, ← h1]
  simp [dkE, rg1_nat he]
theorem deck_one3 {sc : PV} {c e : Nat} {ds : List Int} {seed j : Int} {s5 s6 s7 : Sl} (h : ds.length < sizeLine) :
    B_deck_3 (dkE sc c e ds seed s5 s6 s7 (.sh (.int j))) = .nx (dkE sc c e (ds ++ [(seed * 69621 + j + 1) % 2147483629 / 5 % 1000003]) ((seed * 69621 + j + 1) % 2147483629) s5 s6 s7 (.sh (.int j))) := by
  simp [B_deck_3, dkE, h, smallI]
theorem deck_in3 {sc : PV} {c e : Nat} {ds : List Int} {seed : Int} {s5 s6 s7 s8 : Sl} (hr : ds.length + e ≤ sizeLine) (he : e ≤ 1000000000) :
    ∃ (ds' : List Int) (seed' : Int) (s8' : Sl), ds'.length = ds.length + e ∧ sFor (iR1 (dCons (dVar 2) dNil)) (gName 8) B_deck_3 (dkE sc c e ds seed s5 s6 s7 s8) = .nx (dkE sc c e ds' seed' s5 s6 s7 s8') := by
  obtain ⟨ρ, h1, ds', seed', s8', h2, h3⟩ := dLoop_inv (tgt := gName 8) (body := B_deck_3) (items := rangeP 0 e) (ρ0 := dkE sc c e ds seed s5 s6 s7 s8)
    (fun i ρ => ∃ (ds' : List Int) (seed : Int) (s8 : Sl), ds'.length = ds.length + i ∧ ρ = dkE sc c e ds' seed s5 s6 s7 s8)
    (fun i x ρ hx hi => by
      obtain ⟨hie, rfl⟩ := rangeP_get hx
      obtain ⟨ds', seed, s8, hl, rfl⟩ := hi
      exact ⟨_, _, rfl, .inl (deck_one3 (by omega)), ⟨_, _, _, by rw [List.length_append, hl]; rfl, rfl⟩⟩) ⟨ds, seed, s8, rfl, rfl⟩
  refine ⟨ds', seed', s8', by rw [h2, rangeP_len], ?_⟩
  rw [← h3, ← h1]
  simp [dkE, rg1_nat he]
theorem deck_one1 {ns : List Int} {c e i : Nat} {ds : List Int} {seed : Int} {s6 s7 s8 : Sl} (hr : ds.length + e ≤ sizeLine) (he : e ≤ 1000000000) :
    ∃ (ds' : List Int) (seed' : Int) (s6' s7' s8' : Sl), ds'.length = ds.length + e ∧
      B_deck_1 (dkE (.klst (ns.map .int)) c e ds seed (.sh (.int (i : Nat))) s6 s7 s8) = .nx (dkE (.klst (ns.map .int)) c e ds' seed' (.sh (.int (i : Nat))) s6' s7' s8') := by
  obtain ⟨cell, h1⟩ : ∃ cell : Int, sIf (bVal (d2 gLt (dVar 5) (dN gLenN (dCons (dVar 0) dNil)))) (sSet 6 (d2 gIx (dVar 0) (dVar 5))) sNx (dkE (.klst (ns.map .int)) c e ds seed (.sh (.int (i : Nat))) (.sh (.int 0)) s7 s8) = .nx (dkE (.klst (ns.map .int)) c e ds seed (.sh (.int (i : Nat))) (.sh (.int cell)) s7 s8) := by
    by_cases h : i < ns.length
    · refine ⟨ns[i], ?_⟩
      have h1 : L2.atI (ns.map PV.int) (i : Int) = some (.int ns[i]) := by
        rw [atI_nat (by rw [List.length_map]; exact h), List.getElem_map]
      simp [dkE, h, h1]
    · refine ⟨0, ?_⟩
      simp [dkE, h]
  have h2 : sSet 6 (dC (.int 0)) (dkE (.klst (ns.map .int)) c e ds seed (.sh (.int (i : Nat))) s6 s7 s8) = .nx (dkE (.klst (ns.map .int)) c e ds seed (.sh (.int (i : Nat))) (.sh (.int 0)) s7 s8) := by simp [dkE]
  have h3 : ∀ s7, sSet 7 (dN gAbs (dCons (dVar 6) dNil)) (dkE (.klst (ns.map .int)) c e ds seed (.sh (.int (i : Nat))) (.sh (.int cell)) s7 s8) = .nx (dkE (.klst (ns.map .int)) c e ds seed (.sh (.int (i : Nat))) (.sh (.int cell)) (.sh (.int (if cell < 0 then -cell else cell))) s8) := fun s7 => by simp [dkE]
  unfold B_deck_1
  rw [ap_sSeq, h2]
  simp only
  rw [ap_sSeq, h1]
  simp only
  rw [ap_sSeq, h3]
  simp only
  generalize (if cell < 0 then -cell else cell) = rest
  by_cases hb : (10 : Int) ^ 30 ≤ rest
  · obtain ⟨ds', s7', s8', h4, h5⟩ := deck_in2 (sc := .klst (ns.map .int)) (c := c) (e := e) (ds := ds) (seed := seed) (s5 := .sh (.int (i : Nat))) (s6 := .sh (.int cell)) (s8 := s8) (rest := rest) hr he
    refine ⟨ds', seed, .sh (.int cell), s7', s8', h4, ?_⟩
    rw [← h5]
    have hb : (1000000000000000000000000000000 : Int) ≤ rest := hb
    simp [dkE, hb]
  · obtain ⟨ds', seed', s8', h4, h5⟩ := deck_in3 (sc := .klst (ns.map .int)) (c := c) (e := e) (ds := ds) (seed := (seed * 48271 + 2 * rest + (if cell < 0 then 1 else 0) + i) % 2147483647) (s5 := .sh (.int (i : Nat))) (s6 := .sh (.int cell)) (s7 := .sh (.int rest)) (s8 := s8) hr he
    refine ⟨ds', seed', .sh (.int cell), .sh (.int rest), s8', h4, ?_⟩
    rw [← h5]
    have hb : ¬ (1000000000000000000000000000000 : Int) ≤ rest := hb
    simp [dkE, hb, smallI]
theorem F_deck_eq {ns : List Int} {c e : Nat} (h : c * e ≤ sizeLine) (hc : c ≤ 1000000000) (he : e ≤ 1000000000) : ∃ ds : List Int, F_deck [.klst (ns.map .int), .int c, .int e] = .ok (dk ds) .non := by
  obtain ⟨ρ, h1, ds, seed, s5, s6, s7, s8, h2, h3⟩ := dLoop_inv (tgt := gName 5) (body := B_deck_1) (items := rangeP 0 c) (ρ0 := dkE (.klst (ns.map .int)) c e [] (7 + ns.length) .un .un .un .un)
    (fun i ρ => ∃ (ds : List Int) (seed : Int) (s5 s6 s7 s8 : Sl), ds.length = i * e ∧ ρ = dkE (.klst (ns.map .int)) c e ds seed s5 s6 s7 s8)
    (fun i x ρ hx hi => by
      obtain ⟨hic, rfl⟩ := rangeP_get hx
      obtain ⟨ds, seed, s5, s6, s7, s8, hl, rfl⟩ := hi
      have hm : (i + 1) * e ≤ c * e := Nat.mul_le_mul_right _ hic
      rw [Nat.succ_mul] at hm
      obtain ⟨ds', seed', s6', s7', s8', h4, h5⟩ := deck_one1 (ns := ns) (c := c) (e := e) (i := i) (ds := ds) (seed := seed) (s6 := s6) (s7 := s7) (s8 := s8) (by omega) he
      rw [Int.zero_add]
      exact ⟨_, _, rfl, .inl h5, ⟨ds', seed', _, s6', s7', s8', by rw [h4, hl, Nat.succ_mul], rfl⟩⟩) ⟨[], _, _, _, _, _, by simp, rfl⟩
  refine ⟨ds, ?_⟩
  subst h3
  have h4 : sFor (iR1 (dCons (dVar 1) dNil)) (gName 5) B_deck_1 (dkE (.klst (ns.map .int)) c e [] (7 + ns.length) .un .un .un .un) = .nx (dkE (.klst (ns.map .int)) c e ds seed s5 s6 s7 s8) := by
    rw [← h1]
    simp [dkE, rg1_nat hc]
  have h5 : sSeq (sExpr (dMut0 "list" gReverse 3)) (sRetO 3) (dkE (.klst (ns.map .int)) c e ds seed s5 s6 s7 s8) = .rt (dk ds) (.sh (.klst (ns.map .int)) :: .sh (.int c) :: .sh (.int e) :: .un :: .sh (.int seed) :: [s5, s6, s7, s8]) := by
    simp [dkE, dk]
  have h6 : den_deck (argSl false [.klst (ns.map .int), .int c, .int e] ++ List.replicate (9 - 3) .un) = .rt (dk ds) (.sh (.klst (ns.map .int)) :: .sh (.int c) :: .sh (.int e) :: .un :: .sh (.int seed) :: [s5, s6, s7, s8]) := by
    unfold den_deck
    rw [seq_nx (ρ1 := [.sh (.klst (ns.map .int)), .sh (.int c), .sh (.int e), .ow (.lst []), .un, .un, .un, .un, .un]) (by simp [argSl, List.replicate]),
      seq_nx (ρ1 := dkE (.klst (ns.map .int)) c e [] (7 + ns.length) .un .un .un .un) (by simp [dkE]), seq_nx h4, h5]
  simp only [F_deck, runD, h6, fin0]
  simp
end PL

set_option Elab.async false
set_option linter.all false
set_option maxRecDepth 100000
set_option maxHeartbeats 4000000
namespace PL
open PySem PySem.Spec L2
set_option autoImplicit false
/-! ### what _law_plain tells -/
mutual
def plainP : PV → PV
  | .non => .str "None"
  | .bl false => .str "False"
  | .bl true => .str "True"
  | .int i => .lst [.bl false, .int i]
  | .str x => .lst [.bl true, .str x]
  | .lst ps => .lst (.bl true :: plainPs ps)
  | .tup ps => .lst (.bl false :: plainPs ps)
  | .ktup ps => .lst (.bl false :: plainPs ps)
  | .klst _ => .str "another"
  | .dic _ _ _ => .str "another"
  | .fn _ => .str "another"
def plainPs : List PV → List PV
  | [] => []
  | p :: ps => plainP p :: plainPs ps
end
mutual
/-- of depth under n, of no great length -/
def okD : Nat → PV → Bool
  | 0, _ => false
  | n + 1, .lst ps => decide (ps.length ≤ 100000) && okDs n ps
  | n + 1, .tup ps => decide (ps.length ≤ 100000) && okDs n ps
  | n + 1, .ktup ps => decide (ps.length ≤ 100000) && okDs n ps
  | _ + 1, .str x => PyData.canLay0 (.str x)
  | _ + 1, .klst _ => false
  | _ + 1, .dic _ _ _ => false
  | _ + 1, .fn _ => false
  | _ + 1, _ => true
def okDs : Nat → List PV → Bool
  | _, [] => true
  | n, p :: ps => okD n p && okDs n ps
end
theorem okDs_iff {n : Nat} : ∀ {ps : List PV}, okDs n ps = true ↔ ∀ p ∈ ps, okD n p = true
  | [] => by simp [okDs]
  | p :: ps => by simp [okDs, okDs_iff (ps := ps)]
theorem plainPs_len : ∀ ps : List PV, (plainPs ps).length = ps.length
  | [] => rfl
  | p :: ps => by simp [plainPs, plainPs_len ps]
theorem plainPs_map : ∀ ps : List PV, plainPs ps = ps.map plainP
  | [] => rfl
  | p :: ps => by simp [plainPs, plainPs_map ps]
theorem lc_plain {n : Nat} {q : PV} (ih : ∀ p, okD n p = true → F_plain_ n [p] = .ok (plainP p) .non) : ∀ (ps : List PV), okDs n ps = true →
    lcLoop [1] (gName 1) bYes (dCall (F_plain_ n) (dCons (dVar 1) dNil)) ps [.sh q, .un] = some (plainPs ps, [.sh q, .un])
  | [], _ => rfl
  | p :: ps, h => by
    have h : okD n p = true ∧ okDs n ps = true := by simpa [okDs] using h
    unfold lcLoop
    simp [ih p h.1, noOw, Sl.isOw, wipeE, lc_plain ih ps h.2, plainPs]
theorem F_plain_eq : ∀ (n : Nat) (p : PV), okD n p = true → F_plain_ n [p] = .ok (plainP p) .non
  | 0, p, h => by simp [okD] at h
  | n + 1, p, h => by
    have ih := F_plain_eq n
    have seq : ∀ (ps : List PV) (q : PV) (b : Bool), seqOf q = some ps → ps.length ≤ 100000 → okDs n ps = true → gIsi2 "tuple" "list" q = some (.bl true) → gIsi "list" q = some (.bl b) → F_plain_ (n + 1) [q] = .ok (.lst (.bl b :: plainPs ps)) .non := by
      intro ps q b h1 h2 h3 h4 h5
      have h6 : ps.length ≤ 1000000 := by omega
      have h7 : 1 + ps.length ≤ sizeLine := by rw [sizeLine_eq]; omega
      have h8 : (1 : Nat) ≤ sizeLine := by rw [sizeLine_eq]; omega
      simp [F_plain_, runD, argSl, den_plain, List.replicate, fin0, h1, h4, h5, truth, lockE, Sl.lock, lc_plain ih ps h3, plainPs_len, h6, h7, h8, backE, List.range, List.range.loop, Sl.back, clean]
    cases p with
    | lst ps =>
      have h : ps.length ≤ 100000 ∧ okDs n ps = true := by simpa [okD] using h
      exact seq ps _ true rfl h.1 h.2 rfl rfl
    | tup ps =>
      have h : ps.length ≤ 100000 ∧ okDs n ps = true := by simpa [okD] using h
      exact seq ps _ false rfl h.1 h.2 rfl rfl
    | ktup ps =>
      have h : ps.length ≤ 100000 ∧ okDs n ps = true := by simpa [okD] using h
      exact seq ps _ false rfl h.1 h.2 rfl rfl
    | non => rfl
    | bl b => cases b <;> rfl
    | int i => rfl
    | str x => rfl
    | klst ps => simp [okD] at h
    | dic t ks vs => simp [okD] at h
    | fn a => simp [okD] at h
end PL

set_option Elab.async false
set_option linter.all false
set_option maxRecDepth 100000
set_option maxHeartbeats 4000000
namespace PL
open PySem PySem.Spec L2
set_option autoImplicit false
/-! ### slots lent and given back -/
section
variable (p q : PV)
@[simp] theorem lock_un : Sl.lock .un = .un := id rfl
@[simp] theorem lock_sh : Sl.lock (.sh p) = .sh p := id rfl
@[simp] theorem lock_ow : Sl.lock (.ow p) = .io p := id rfl
@[simp] theorem lock_io : Sl.lock (.io p) = .io p := id rfl
@[simp] theorem back_ow : Sl.back (.ow p) (.io q) = .ow q := id rfl
@[simp] theorem back_io : Sl.back (.io p) (.io q) = .io q := id rfl
@[simp] theorem back_sh : Sl.back (.sh p) (.sh q) = .sh q := id rfl
@[simp] theorem back_owsh : Sl.back (.ow p) (.sh q) = .sh q := id rfl
@[simp] theorem back_un : Sl.back .un .un = .un := id rfl
@[simp] theorem clean_un : clean .un = .un := id rfl
@[simp] theorem clean_sh : clean (.sh p) = .sh p := id rfl
@[simp] theorem isOw_un : Sl.isOw .un = false := id rfl
@[simp] theorem isOw_sh : Sl.isOw (.sh p) = false := id rfl
@[simp] theorem isOw_io : Sl.isOw (.io p) = false := id rfl
@[simp] theorem noOw_nil : noOw [] = true := id rfl
@[simp] theorem noOw_cons (s : Sl) (r : Env) : noOw (s :: r) = (!s.isOw && noOw r) := id rfl
end
def sl : Option PV → Sl
  | none => .un
  | some p => .sh p
@[simp] theorem sl_lock (o : Option PV) : Sl.lock (sl o) = sl o := by cases o <;> rfl
@[simp] theorem sl_back (o : Option PV) : Sl.back (sl o) (sl o) = sl o := by cases o <;> rfl
@[simp] theorem sl_ow (o : Option PV) : Sl.isOw (sl o) = false := by cases o <;> rfl
@[simp] theorem sl_clean (o : Option PV) : clean (sl o) = sl o := by cases o <;> rfl
/-! ### texts as lists of signs -/
def st (l : List Nat) : Str := ⟨l.toArray⟩
theorem st_cps (l : List Nat) : (st l).cps.toList = l := rfl
@[simp] theorem st_len (l : List Nat) : (st l).length = l.length := by show (l.toArray).size = _; simp
@[simp] theorem st_app (l m : List Nat) : st l ++ st m = st (l ++ m) := by show (⟨l.toArray ++ m.toArray⟩ : Str) = _; simp [st]
@[simp] theorem st_inj {l m : List Nat} : (st l = st m) = (l = m) := by
  refine propext ⟨fun h => ?_, fun h => by rw [h]⟩
  have := congrArg (fun s : Str => s.cps.toList) h
  simpa [st] using this
theorem st_of (x : Str) : x = st x.cps.toList := by obtain ⟨a⟩ := x; simp [st]
@[simp] theorem st_signs (l : List Nat) : signs (st l) = l.map fun c => .str (st [c]) := by simp [signs, st]
@[simp] theorem ap_slS (l : List Nat) (lo hi : Option Int) : gSl (.str (st l)) lo hi = if l.length ≤ sizeLine then some (.str (st (cutP l lo hi))) else none := by
  have e : cutS (st l) lo hi = st (cutP l lo hi) := by
    unfold cutS cutP
    rw [st_len]
    rfl
  show (if (st l).length ≤ sizeLine then some (PV.str (cutS (st l) lo hi)) else none) = _
  rw [st_len, e]
@[simp] theorem ap_slL (l : List PV) (lo hi : Option Int) : gSl (.lst l) lo hi = some (.lst (cutP l lo hi)) := rfl
@[simp] theorem ap_slLL (l : List PV) (lo hi : Option Int) : gSlL (.lst l) lo hi = some (.lst (cutP l lo hi)) := rfl
@[simp] theorem ap_ixSt (l : List Nat) (i : Int) : gIx (.str (st l)) (.int i) = if l.length ≤ sizeLine then (L2.atI l i).map fun c => .str (st [c]) else none := by
  rw [ap_ixS, st_len, st_cps]; rfl
theorem cutP_nat {α : Type} (l : List α) (a b : Nat) : cutP l (some (a : Int)) (some (b : Int)) = (l.take b).drop a := by
  unfold cutP
  rw [HT.sIx_nat, HT.sIx_nat, List.drop_take]
  by_cases h : a ≤ l.length
  · rw [Nat.min_eq_left h]
    by_cases h2 : b ≤ l.length
    · rw [Nat.min_eq_left h2]
    · have h3 : min b l.length = l.length := Nat.min_eq_right (by omega)
      rw [h3, List.take_of_length_le (by simp), List.take_of_length_le (by simp; omega)]
  · have h3 : min a l.length = l.length := Nat.min_eq_right (by omega)
    have h4 : l.drop a = [] := List.drop_of_length_le (by omega)
    rw [h3, h4, List.drop_of_length_le (Nat.le_refl _)]
    simp
theorem cutP_lo {α : Type} (l : List α) (a : Nat) : cutP l (some (a : Int)) none = l.drop a := by
  unfold cutP
  rw [HT.sIx_nat, HT.sIx_none]
  by_cases h : a ≤ l.length
  · rw [Nat.min_eq_left h, List.take_of_length_le (by simp)]
  · have h3 : min a l.length = l.length := Nat.min_eq_right (by omega)
    rw [h3, List.drop_of_length_le (Nat.le_refl _), List.drop_of_length_le (by omega)]; simp
theorem cutP_hi {α : Type} (l : List α) (b : Nat) : cutP l none (some (b : Int)) = l.take b := by
  unfold cutP
  rw [HT.sIx_nat, HT.sIx_none, List.drop_zero, Nat.sub_zero]
  by_cases h : b ≤ l.length
  · rw [Nat.min_eq_left h]
  · have h3 : min b l.length = l.length := Nat.min_eq_right (by omega)
    rw [h3, List.take_of_length_le (Nat.le_refl _), List.take_of_length_le (by omega)]
@[simp] theorem ap_oSome {da : Den} {ρ : Env} : oSome da ρ = (da ρ).bind fun p ρ1 => opt (p.int?.map some) ρ1 := id rfl
@[simp] theorem ap_int? (i : Int) : PV.int? (.int i) = some i := rfl
@[simp] theorem ap_dSl {g : PV → Option Int → Option Int → Option PV} {da : Den} {dl dh : DenO} {ρ : Env} : dSl g da dl dh ρ = (da ρ).bind fun p ρ1 => (dl ρ1).bind fun l ρ2 => (dh ρ2).bind fun h ρ3 => opt (g p l h) ρ3 := id rfl
@[simp] theorem ap_dSlv {g : PV → Option Int → Option Int → Option PV} {i : Nat} {dl dh : DenO} {ρ : Env} : dSlv g i dl dh ρ = match slot ρ i with
  | none => .bad
  | some _ => (dl ρ).bind fun l ρ2 => (dh ρ2).bind fun h ρ3 => match slot ρ3 i with
    | none => .bad
    | some p => opt (g p l h) ρ3 := id rfl
@[simp] theorem ap_dJoin {da db : Den} {ρ : Env} : dJoin da db ρ = (da ρ).bind fun p ρ1 => match p with
  | .str _ => (db ρ1).bind fun q ρ2 => opt (gJoin p q) ρ2
  | _ => .bad := id rfl
/-! ### equal texts, shaped values -/
def asc (l : List Nat) : Prop := ∀ c ∈ l, c < 128
theorem strOk_st {l : List Nat} (h : asc l) : PyData.strOk (st l) = true := by
  show (l.toArray).all (· < 0x110000) = true
  simp only [List.all_toArray, List.all_eq_true, decide_eq_true_eq]
  intro c hc
  have := h c hc
  omega
theorem shaped_st {l : List Nat} (h : asc l) : SeqAt.shaped (PV.toD (.str (st l))) = true := by
  have e : PyData.canLay0 (.str (st l)) = true := by simp only [PyData.canLay0]; exact strOk_st h
  simp only [SeqAt.shaped, PV.toD, e, Bool.true_and, decide_eq_true_eq, PyData.depth]
  exact Nat.zero_le _
theorem eqv_str (x y : Str) : PyData.eqv (.str x) (.str y) = decide (x = y) := by
  simp only [PyData.eqv]
  by_cases h : x = y <;> simp [h]
theorem ap_eqS {l m : List Nat} (h : asc l) (h' : asc m) : gEq (.str (st l)) (.str (st m)) = some (.bl (decide (l = m))) := by
  unfold gEq pvEq
  rw [shaped_st h, shaped_st h']
  simp only [PV.toD, eqv_str, st_inj, Bool.and_self, if_true]
theorem canAll_iff : ∀ {ps : List PV}, PyData.canLayAll0 (toDs ps) = true ↔ ∀ p ∈ ps, p.toD.canLay0 = true
  | [] => by simp [toDs, PyData.canLayAll0]
  | p :: ps => by simp [toDs, PyData.canLayAll0, canAll_iff (ps := ps)]
theorem depthAll_le {n : Nat} : ∀ {ps : List PV}, (∀ p ∈ ps, p.toD.depth ≤ n) → PyData.depthAll (toDs ps) ≤ n
  | [], _ => by simp [toDs, PyData.depthAll]
  | p :: ps, h => by
    simp only [toDs, PyData.depthAll]
    exact Nat.max_le.mpr ⟨h p List.mem_cons_self, depthAll_le fun q hq => h q (List.mem_cons_of_mem _ hq)⟩
theorem plain_lay : ∀ (n : Nat) (p : PV), okD n p = true → (plainP p).toD.canLay0 = true ∧ (plainP p).toD.depth ≤ n
  | 0, p, h => by simp [okD] at h
  | n + 1, p, h => by
    have ih := plain_lay n
    have seq : ∀ (b : Bool) (ps : List PV), okDs n ps = true → (PV.lst (.bl b :: plainPs ps)).toD.canLay0 = true ∧ (PV.lst (.bl b :: plainPs ps)).toD.depth ≤ n + 1 := by
      intro b ps h3
      have h3 := okDs_iff.mp h3
      refine ⟨?_, ?_⟩
      · simp only [PV.toD, PyData.canLay0]
        rw [canAll_iff]
        intro q hq
        rcases List.mem_cons.mp hq with e | hq
        · subst e; rfl
        · rw [plainPs_map] at hq
          obtain ⟨p, hp, e⟩ := List.mem_map.mp hq
          subst e
          exact (ih p (h3 p hp)).1
      · simp only [PV.toD, PyData.depth]
        refine Nat.succ_le_succ (depthAll_le ?_)
        intro q hq
        rcases List.mem_cons.mp hq with e | hq
        · subst e; simp [PV.toD, PyData.depth]
        · rw [plainPs_map] at hq
          obtain ⟨p, hp, e⟩ := List.mem_map.mp hq
          subst e
          exact (ih p (h3 p hp)).2
    cases p with
    | lst ps =>
      have h : ps.length ≤ 100000 ∧ okDs n ps = true := by simpa [okD] using h
      exact seq true ps h.2
    | tup ps =>
      have h : ps.length ≤ 100000 ∧ okDs n ps = true := by simpa [okD] using h
      exact seq false ps h.2
    | ktup ps =>
      have h : ps.length ≤ 100000 ∧ okDs n ps = true := by simpa [okD] using h
      exact seq false ps h.2
    | non => exact ⟨by decide +kernel, by simp [plainP, PV.toD, PyData.depth]⟩
    | bl b => cases b <;> exact ⟨by decide +kernel, by simp [plainP, PV.toD, PyData.depth]⟩
    | int i => exact ⟨by simp [plainP, PV.toD, toDs, PyData.canLay0, PyData.canLayAll0], by simp [plainP, PV.toD, toDs, PyData.depth, PyData.depthAll]⟩
    | str x =>
      have h : PyData.canLay0 (.str x) = true := by simpa [okD] using h
      exact ⟨by simp [plainP, PV.toD, toDs, PyData.canLay0, PyData.canLayAll0]; simpa [PyData.canLay0] using h, by simp [plainP, PV.toD, toDs, PyData.depth, PyData.depthAll]⟩
    | klst ps => simp [okD] at h
    | dic t ks vs => simp [okD] at h
    | fn a => simp [okD] at h
theorem plain_ne {n : Nat} {p : PV} (h : okD n p = true) (hn : n ≤ 64) : gNe (plainP p) (plainP p) = some (.bl false) := by
  obtain ⟨h1, h2⟩ := plain_lay n p h
  have h3 : SeqAt.shaped (plainP p).toD = true := by
    simp only [SeqAt.shaped, h1, Bool.true_and, decide_eq_true_eq]
    omega
  unfold gNe pvEq
  rw [h3, SeqAt.eqv_refl _ h1]
  rfl
theorem ap_plain {n : Nat} {p : PV} (h : okD n p = true) : F_plain_ n [p] = .ok (plainP p) .non := F_plain_eq n p h
end PL

set_option Elab.async false
set_option linter.all false
set_option maxRecDepth 100000
set_option maxHeartbeats 4000000
namespace PL
open PySem PySem.Spec L2
set_option autoImplicit false
section
variable {X : Cx} {W : WX} {fr : Bool} {k : Nat} {pos p p2 p3 : Pos} {e a b : Expr} {es : List Expr} {da db : Den} {dl : DenL} {x : Str} {K : PySem.W.Frag} {mg : Str → Option Value}
/-! ### whole division by greater numbers -/
def gFdivW : PV → PV → Option PV
  | .int i, .int j => if decide (0 < j) && decide (j.natAbs.log2 < 9000) then some (.int (i / j)) else none
  | _, _ => none
theorem v2_fdivW : V2 K (rI CDivW fun i j => .int (i / j)) gFdivW := by
  intro S H x y p q z Q s rx ry e k
  unfold gFdivW at e
  split at e
  · split at e
    · rename_i hz
      cases rx; cases ry; cases e
      simp only [Bool.and_eq_true, decide_eq_true_eq] at hz
      exact ⟨_, _, rfl, rfl, hz, k _ S H (Step.refl s) (.int _)⟩
    · cases e
  · cases e
abbrev dFdivW := d2 gFdivW
theorem de_fdivW (ha : DE X W a da) (hb : DE X W b db) : DE X W (.BinOp a .FloorDiv b pos) (dFdivW da db) := de_op op_fdivW v2_fdivW ha hb
/-! ### math.gcd -/
def gGcd : List PV → Option PV
  | [.int i, .int j] => some (.int ((Nat.gcd i.natAbs j.natAbs : Nat) : Int))
  | _ => none
theorem vn_gcd : VN K rGcd gGcd := by
  intro S H xs ps z Q s rx e k
  unfold gGcd at e
  split at e
  · cases e
    cases rx with
    | cons r1 r2 =>
      cases r2 with
      | cons r3 r4 =>
        cases r4; cases r1; cases r3
        exact ⟨_, _, rfl, k _ S H (Step.refl s) (.int _)⟩
  · cases e
theorem de_gcd (hm : X.mg x = some (.builtin "math.gcd")) (ha : DA X W (e :: es) dl) (hg : Gl X x := by rfl) (hdb : (x == ("__debug__" : Str)) = false := by decide)
    (he : starEach (e :: es) X.env = (false, eval e X.env) :: starEach es X.env := by rfl) (hpl : (backTo pos (starEach es X.env)).any (·.1) = false := by rfl) : DE X W (.Call (.Name x p) (e :: es) [] pos) (dN gGcd dl) :=
  DE.of (pe_callBfun cr_gcd hg hm ha hdb he hpl) (eo_n canon_ok vn_gcd)
/-! ### list(range(..)) -/
theorem rep_rg {S : Hp} (i j : Int) : RepL K S (rangeP i (j - i).toNat) (rgV i j) := by
  unfold rangeP rgV
  generalize (List.range (j - i).toNat) = l
  induction l with
  | nil => exact .nil
  | cons c l ih => exact .cons (.int _) ih
def rgOkB (i j : Int) : Bool := decide (-(2 ^ 62) ≤ i) && decide (i < 2 ^ 62) && (decide (-(2 ^ 62) ≤ j) && decide (j < 2 ^ 62)) && decide ((j - i).toNat ≤ 2 ^ 24)
theorem rgOkB_ok {i j : Int} (h : rgOkB i j = true) : RgOk i j := by
  unfold rgOkB at h
  simp only [Bool.and_eq_true, decide_eq_true_eq] at h
  obtain ⟨⟨⟨h1, h2⟩, h3, h4⟩, h5⟩ := h
  exact ⟨h1, h2, h3, h4, h5⟩
def lrg (i j : Int) (ρ : Env) : Rs PV := if rgOkB i j = true then .ok (.lst (rangeP i (j - i).toNat)) ρ else .bad
def dLR1 (da : Den) : Den := fun ρ => (da ρ).bind fun p ρ1 => match p with
  | .int j => lrg 0 j ρ1
  | _ => .bad
def dLR2 (da db : Den) : Den := fun ρ => (da ρ).bind fun p ρ1 => (db ρ1).bind fun q ρ2 => match p, q with
  | .int i, .int j => lrg i j ρ2
  | _, _ => .bad
theorem df_lr1 (c : Ctx X W k) (B : Bi X.mg) (ha : DE X W a da) (hg : Gl X "list" := by rfl) (hg2 : Gl X "range" := by rfl) (na : starEach [a] X.env = (false, eval a X.env) :: starEach [] X.env := by rfl) (nb : starEach [.Call (.Name "range" p2) [a] [] p3] X.env = (false, eval (.Call (.Name "range" p2) [a] [] p3) X.env) :: starEach [] X.env := by rfl) :
    DF X W (.Call (.Name "list" p) [.Call (.Name "range" p2) [a] [] p3] [] pos) (dLR1 da) :=
  DF.of (pe_listRg c.calm hg B.list (prg_1 hg2 B.range ha na) nb) fun H₀ S₀ M S σ H ρ Q ab hp =>
    canon_ok.bind (Rl := rV X.K) (Rl' := rF X.K) ab hp fun p ρ1 v S1 H1 _ a1 _ r1 hp => by
      cases p with
      | int j =>
        cases r1
        have hp : Post X.K X.mg W (rF X.K) H₀ S₀ M σ (lrg 0 j ρ1) Q := hp
        unfold lrg at hp
        split at hp
        · rename_i hz
          exact ⟨j, rfl, rgOkB_ok hz, fun c n => hp _ S1 _ (a1.fresh n (p := .lst _) (o := .lst _) (rep_rg 0 j)).1 (a1.fresh n (p := .lst _) (o := .lst _) (rep_rg 0 j)).2⟩
        · exact hp.elim
      | _ => exact hp.elim
theorem df_lr2 (c : Ctx X W k) (B : Bi X.mg) (ha : DE X W a da) (hb : DE X W b db) (hg : Gl X "list" := by rfl) (hg2 : Gl X "range" := by rfl) (na : starEach [a, b] X.env = (false, eval a X.env) :: starEach [b] X.env := by rfl) (nb : starEach [b] X.env = (false, eval b X.env) :: starEach [] X.env := by rfl)
    (hpl : (backTo p3 (starEach [b] X.env)).any (·.1) = false := by rfl) (nc : starEach [.Call (.Name "range" p2) [a, b] [] p3] X.env = (false, eval (.Call (.Name "range" p2) [a, b] [] p3) X.env) :: starEach [] X.env := by rfl) :
    DF X W (.Call (.Name "list" p) [.Call (.Name "range" p2) [a, b] [] p3] [] pos) (dLR2 da db) :=
  DF.of (pe_listRg c.calm hg B.list (prg_2 hg2 B.range ha hb na nb hpl) nc) fun H₀ S₀ M S σ H ρ Q ab hp =>
    canon_ok.bind (Rl := rV X.K) (Rl' := rF X.K) ab hp fun p ρ1 v S1 H1 _ a1 _ r1 hp => canon_ok.bind (Rl := rV X.K) (Rl' := rF X.K) a1 hp fun q ρ2 u S2 H2 _ a2 _ r2 hp => by
      cases p with
      | int i =>
        cases q with
        | int j =>
          cases r1; cases r2
          have hp : Post X.K X.mg W (rF X.K) H₀ S₀ M σ (lrg i j ρ2) Q := hp
          unfold lrg at hp
          split at hp
          · rename_i hz
            exact ⟨i, j, rfl, rfl, rgOkB_ok hz, fun c n => hp _ S2 _ (a2.fresh n (p := .lst _) (o := .lst _) (rep_rg i j)).1 (a2.fresh n (p := .lst _) (o := .lst _) (rep_rg i j)).2⟩
          · exact hp.elim
        | _ => exact hp.elim
      | _ => exact hp.elim
/-! ### x[::-1] of a list -/
def dRevL (da : Den) : Den := fun ρ => (da ρ).bind fun p ρ1 => match p with
  | .lst ps => .ok (.lst ps.reverse) ρ1
  | .klst ps => .ok (.lst ps.reverse) ρ1
  | _ => .bad
theorem df_revL {kk : Nat} {p1 : Pos} (ha : DE X W e da) : DF X W (.Subscript e (.Slice none none (some (.UnaryOp .USub (.Constant (.int 1) kk p1) p2)) p3) pos) (dRevL da) :=
  DF.of (pe_revL ha) fun H₀ S₀ M S σ H ρ Q ab hp => canon_ok.bind (Rl := rV X.K) (Rl' := rF X.K) ab hp fun p ρ1 v S1 H1 _ a1 _ r1 hp => by
    cases p with
    | lst ps =>
      cases r1 with
      | lst h1 h2 => exact ⟨_, _, rfl, .inl (.inl (a1.sub _ _ h1)), fun c n => hp _ S1 _ (a1.fresh n (p := .lst _) (o := .lst _) h2.reverse).1 (a1.fresh n (p := .lst _) (o := .lst _) h2.reverse).2⟩
    | klst ps =>
      cases r1 with
      | klst h1 h2 => exact ⟨_, _, rfl, Same.lstK a1.sub h1, fun c n => hp _ S1 _ (a1.fresh n (p := .lst _) (o := .lst _) h2.reverse).1 (a1.fresh n (p := .lst _) (o := .lst _) h2.reverse).2⟩
    | _ => exact hp.elim
/-! ### tuple(x) -/
def gTupOf : List PV → Option PV
  | [.lst ps] => some (.tup ps)
  | [.tup ps] => some (.tup ps)
  | [.ktup ps] => some (.ktup ps)
  | _ => none
theorem vn_tupOf : VN K (fun xs H Q => ∃ p ys, xs = [.ref p] ∧ ((SqL K H p ys ∧ ∀ l, H l = none → Q (.ref l) (upd H l (.tup ys))) ∨ (SqT K H p ys ∧ Q (.ref p) H))) gTupOf := by
  intro S H xs ps z Q s rx e k
  unfold gTupOf at e
  split at e
  · cases rx with
    | cons r1 r2 =>
      cases r2; cases e
      cases r1 with
      | lst h1 h2 => exact ⟨_, _, rfl, .inl ⟨.inl (.inl (s _ _ h1)), fun l n => k _ (upd S l (.tup _)) _ (Step.new1 s n) (.tup upd_same (h2.up (same_upd (Same.free s n))))⟩⟩
  · cases rx with
    | cons r1 r2 =>
      cases r2; cases e
      cases r1 with
      | tup h1 h2 => exact ⟨_, _, rfl, .inr ⟨.inl (.inl (s _ _ h1)), k _ S H (Step.refl s) (.tup h1 h2)⟩⟩
  · cases rx with
    | cons r1 r2 =>
      cases r2; cases e
      cases r1 with
      | ktup h1 h2 => exact ⟨_, _, rfl, .inr ⟨Same.tupK s h1, k _ S H (Step.refl s) (.ktup h1 h2)⟩⟩
  · cases e
theorem de_tupOf (B : Bi X.mg) (ha : DA X W (e :: es) dl) (hg : Gl X "tuple" := by rfl) (he : starEach (e :: es) X.env = (false, eval e X.env) :: starEach es X.env := by rfl) (hpl : (backTo pos (starEach es X.env)).any (·.1) = false := by rfl) :
    DE X W (.Call (.Name "tuple" p) (e :: es) [] pos) (dN gTupOf dl) := DE.of (pe_callTy call_tuple_of hg B.tuple (by decide +kernel) ha (by decide) (by decide) he hpl) (eo_n canon_ok vn_tupOf)
/-! ### sorted(whole numbers) -/
def insI (n : Int) : List Int → List Int
  | [] => [n]
  | m :: l => if n ≤ m then n :: m :: l else m :: insI n l
def sortI : List Int → List Int
  | [] => []
  | n :: l => insI n (sortI l)
theorem insI_perm (n : Int) : ∀ l, (insI n l).Perm (n :: l)
  | [] => .refl _
  | m :: l => by
    unfold insI
    split
    · exact .refl _
    · exact ((insI_perm n l).cons m).trans (.swap n m l)
theorem sortI_perm : ∀ l, (sortI l).Perm l
  | [] => .refl _
  | n :: l => (insI_perm n (sortI l)).trans ((sortI_perm l).cons n)
theorem insI_le {n : Int} : ∀ {l : List Int}, l.Pairwise (· ≤ ·) → (insI n l).Pairwise (· ≤ ·)
  | [], _ => by simp [insI]
  | m :: l, h => by
    have h1 := List.pairwise_cons.mp h
    unfold insI
    split
    · rename_i hz
      refine List.pairwise_cons.mpr ⟨fun a ha => ?_, h⟩
      rcases List.mem_cons.mp ha with e | e
      · rw [e]; exact hz
      · exact Int.le_trans hz (h1.1 a e)
    · rename_i hz
      refine List.pairwise_cons.mpr ⟨fun a ha => ?_, insI_le h1.2⟩
      rcases List.mem_cons.mp ((insI_perm n l).mem_iff.mp ha) with e | e
      · rw [e]; omega
      · exact h1.1 a e
theorem sortI_le : ∀ l : List Int, (sortI l).Pairwise (· ≤ ·)
  | [] => .nil
  | n :: l => insI_le (sortI_le l)
theorem sort_uniq {l m : List Int} (h : l.Perm m) (hl : l.Pairwise (· ≤ ·)) (hm : m.Pairwise (· ≤ ·)) : l = m :=
  h.eq_of_pairwise (fun a b _ _ h1 h2 => Int.le_antisymm h1 h2) hl hm
theorem ints_rep {S : Hp} : ∀ {ps : List PV} {vs : List V} {ns : List Int}, ints? ps = some ns → RepL K S ps vs → vs = ns.map V.int
  | [], _, _, e, h => by cases h; cases e; rfl
  | p :: ps, _, ns, e, h => by
    cases h with
    | cons h1 h2 =>
      cases p with
      | int i =>
        have e : (ints? ps).map (i :: ·) = some ns := e
        cases e1 : ints? ps with
        | none => rw [e1] at e; cases e
        | some ms =>
          rw [e1] at e; cases e
          cases h1
          rw [ints_rep e1 h2]; rfl
      | _ => cases e
def gSorted : List PV → Option PV
  | [.lst ps] => (ints? ps).map fun ns => .lst ((sortI ns).map .int)
  | _ => none
theorem vn_sorted : VNF K (rSortedI K) gSorted := by
  intro S H xs ps z Q s rx e k
  unfold gSorted at e
  split at e
  · rename_i ps
    cases rx with
    | cons r1 r2 =>
      cases r2
      cases r1 with
      | lst h1 h2 =>
        cases e1 : ints? ps with
        | none => rw [e1] at e; cases e
        | some ns =>
          rw [e1] at e; cases e
          have e2 := ints_rep e1 h2
          subst e2
          refine ⟨_, ns, rfl, .inl (.inl (s _ _ h1)), fun ns' q hp hs n => ?_⟩
          have e3 := sort_uniq (hp.trans (sortI_perm ns).symm) hs (sortI_le ns)
          subst e3
          exact k q (.lst _) n (repInts _)
  · cases e
theorem df_sorted (B : Bi X.mg) (ha : DA X W (e :: es) dl) (hg : Gl X "sorted" := by rfl) (he : starEach (e :: es) X.env = (false, eval e X.env) :: starEach es X.env := by rfl) (hpl : (backTo pos (starEach es X.env)).any (·.1) = false := by rfl) :
    DF X W (.Call (.Name "sorted" p) (e :: es) [] pos) (dN gSorted dl) := DF.of (pe_callB cr_sortedI hg B.sorted (by decide +kernel) ha (by decide) (by decide) he hpl) (fo_n canon_ok vn_sorted)
end
end PL

set_option Elab.async false
set_option linter.all false
set_option maxRecDepth 100000
set_option maxHeartbeats 4000000
namespace PL
open PySem PySem.Spec L2
set_option autoImplicit false
section
variable {X : Cx} {W : WX} {K : PySem.W.Frag}
/-! ### x in a tuple of flat values -/
def flat? : PV → Option V
  | .non => some .non
  | .bl b => some (.bl b)
  | .int i => some (.int i)
  | .str x => some (.str x)
  | _ => none
def flats? : List PV → Option (List V)
  | [] => some []
  | p :: ps => (flat? p).bind fun x => (flats? ps).map fun xs => x :: xs
theorem flat_rep {S : Hp} {p : PV} {v x : V} (e : flat? p = some x) (r : Rep K S p v) : v = x ∧ flatV x = true := by
  cases p <;> first | (cases e; cases r; exact ⟨rfl, rfl⟩) | cases e
theorem flats_rep {S : Hp} : ∀ {ps : List PV} {vs xs : List V}, flats? ps = some xs → RepL K S ps vs → vs = xs ∧ xs.all flatV = true
  | [], _, _, e, r => by cases r; cases e; exact ⟨rfl, rfl⟩
  | p :: ps, _, _, e, r => by
    cases r with
    | cons r1 r2 =>
      have e : ((flat? p).bind fun x => (flats? ps).map fun xs => x :: xs) = some _ := e
      cases e1 : flat? p with
      | none => rw [e1] at e; cases e
      | some x =>
        cases e2 : flats? ps with
        | none => rw [e1, e2] at e; cases e
        | some xs =>
          rw [e1, e2] at e
          cases e
          obtain ⟨h1, h2⟩ := flat_rep e1 r1
          obtain ⟨h3, h4⟩ := flats_rep e2 r2
          subst h1 h3
          exact ⟨rfl, by rw [List.all_cons, h2, h4]; rfl⟩
def gInT (neg : Bool) : PV → PV → Option PV
  | p, .tup ps => (flat? p).bind fun x => (flats? ps).map fun xs => .bl (if neg then !inV x xs else inV x xs)
  | p, .ktup ps => (flat? p).bind fun x => (flats? ps).map fun xs => .bl (if neg then !inV x xs else inV x xs)
  | _, _ => none
theorem v2_inT {neg : Bool} : V2 K (rIn K neg) (gInT neg) := by
  intro S H x y p q z Q s rx ry e k
  have key : ∀ ps : List PV, ∀ vs : List V, RepL K S ps vs → ((flat? p).bind fun x => (flats? ps).map fun xs => PV.bl (if neg then !inV x xs else inV x xs)) = some z → flatV x = true ∧ vs.all flatV = true ∧ z = .bl (if neg then !inV x vs else inV x vs) := by
    intro ps vs r e
    cases e1 : flat? p with
    | none => rw [e1] at e; cases e
    | some x' =>
      cases e2 : flats? ps with
      | none => rw [e1, e2] at e; cases e
      | some xs =>
        rw [e1, e2] at e
        cases e
        obtain ⟨h1, h2⟩ := flat_rep e1 rx
        obtain ⟨h3, h4⟩ := flats_rep e2 r
        subst h1 h3
        exact ⟨h2, h4, rfl⟩
  cases q with
  | tup ps =>
    cases ry with
    | tup h1 h2 =>
      obtain ⟨g1, g2, rfl⟩ := key ps _ h2 e
      exact ⟨_, _, rfl, .inr (.inl (.inl (s _ _ h1))), g1, g2, k _ S H (Step.refl s) (.bl _)⟩
  | ktup ps =>
    cases ry with
    | ktup h1 h2 =>
      obtain ⟨g1, g2, rfl⟩ := key ps _ h2 e
      exact ⟨_, _, rfl, .inr (Same.tupK s h1), g1, g2, k _ S H (Step.refl s) (.bl _)⟩
  | _ => cases e
theorem gInT_sc {neg : Bool} : ∀ p q z, gInT neg p q = some z → z.sc = true := by
  intro p q z e
  have key : ∀ ps : List PV, ((flat? p).bind fun x => (flats? ps).map fun xs => PV.bl (if neg then !inV x xs else inV x xs)) = some z → z.sc = true := by
    intro ps e
    cases e1 : flat? p with
    | none => rw [e1] at e; cases e
    | some x' =>
      cases e2 : flats? ps with
      | none => rw [e1, e2] at e; cases e
      | some xs => rw [e1, e2] at e; cases e; rfl
  cases q with
  | tup ps => exact key ps e
  | ktup ps => exact key ps e
  | _ => cases e
theorem cr_inT : CmpR X .In (rIn X.K false) (gInT false) := ⟨op_in_seq, v2_inT, gInT_sc⟩
theorem cr_notInT : CmpR X .NotIn (rIn X.K true) (gInT true) := ⟨op_notIn_seq, v2_inT, gInT_sc⟩
/-! ### tuples of the module -/
def fltB : PV → Value → Bool
  | .non, .none => true
  | .bl b, .bool c => b == c
  | .int i, .int j _ => i == j
  | .str x, .str y _ => x == y
  | _, _ => false
def fltsB : List PV → List Value → Bool
  | [], [] => true
  | p :: ps, v :: vs => fltB p v && fltsB ps vs
  | _, _ => false
theorem fltB_ok {S : Hp} {p : PV} {u : Value} (h : fltB p u = true) : ∃ v, RelV v u ∧ Rep K S p v := by
  unfold fltB at h
  split at h
  · exact ⟨.non, rfl, .non⟩
  · rw [beq_iff_eq] at h; subst h; exact ⟨.bl _, rfl, .bl _⟩
  · rw [beq_iff_eq] at h; subst h; exact ⟨.int _, ⟨_, rfl⟩, .int _⟩
  · rw [beq_iff_eq] at h; subst h; exact ⟨.str _, ⟨_, rfl⟩, .str _⟩
  · cases h
theorem fltsB_ok {S : Hp} : ∀ {ps : List PV} {us : List Value}, fltsB ps us = true → ∃ vs, Vals vs us ∧ RepL K S ps vs
  | [], [], _ => ⟨[], .nil, .nil⟩
  | [], _ :: _, h => by cases h
  | _ :: _, [], h => by cases h
  | p :: ps, u :: us, h => by
    have h : fltB p u = true ∧ fltsB ps us = true := (Bool.and_eq_true _ _).mp h
    obtain ⟨v, h1, h2⟩ := fltB_ok (K := K) (S := S) h.1
    obtain ⟨vs, h3, h4⟩ := fltsB_ok h.2
    exact ⟨v :: vs, .cons h1 h3, .cons h2 h4⟩
def ktupB (K : PySem.W.Frag) (x : Str) (ps : List PV) : Bool := He.eqO (PySem.W.nsIn K mainGlobals x) (some (some (.ref (He.ga K x)))) && (match K.lookup (He.ga K x) with
  | some ⟨.type c, _, .seq its _, _⟩ => c == "tuple" && (decide (its.size ≤ sizeLine) && fltsB ps its.toList)
  | _ => false)
theorem ktupB_ok {ps : List PV} {x : Str} {h : Heap} {mg : Str → Option Value} (X : K.In h) (G : h.Ns mainGlobals mg) (hb : ktupB K x ps = true) : mg x = some (.ref (He.ga K x)) ∧ ∀ S, Rep K S (.ktup ps) (.ref (He.ga K x)) := by
  obtain ⟨h1, h2⟩ := (Bool.and_eq_true _ _).mp hb
  refine ⟨PySem.W.mg_of X G (He.eqO_ok h1), fun S => ?_⟩
  split at h2
  · rename_i c dd its n sl e
    simp only [Bool.and_eq_true, decide_eq_true_eq, beq_iff_eq] at h2
    obtain ⟨hc, hz, hf⟩ := h2
    subst hc
    obtain ⟨vs, h3, h4⟩ := fltsB_ok (K := K) (S := S) hf
    exact .ktup (.inr ⟨_, its, n, e, rfl, rfl, hz, h3⟩) h4
  · cases h2
/-- a module's name of a built-in function -/
def bltB (K : PySem.W.Frag) (x : Str) (id : String) : Bool := He.eqO (PySem.W.nsIn K mainGlobals x) (some (some (.builtin id)))
theorem bltB_ok {x : Str} {id : String} {h : Heap} {mg : Str → Option Value} (X : K.In h) (G : h.Ns mainGlobals mg) (hb : bltB K x id = true) : mg x = some (.builtin id) := PySem.W.mg_of X G (He.eqO_ok hb)
end
end PL

set_option Elab.async false
set_option linter.all false
set_option maxRecDepth 100000
set_option maxHeartbeats 4000000
namespace PL
open PySem PySem.Spec L2
set_option autoImplicit false
/-- a measure: the number in a slot -/
def muI (i : Nat) (ρ : Env) : Nat := match (ρ[i]? : Option Sl) with
  | some (.sh (.int j)) => j.natAbs + 2
  | _ => 0
section
variable {X : Cx} {W : WX} {fr : Bool} {k : Nat} {pos : Pos} {a b : Expr} {dl : DenL} {x y : Str}
/-! ### a, b = e, f -/
def sPar (i j : Nat) (dl : DenL) : DenS := fun ρ => (dl ρ).bindS fun ps ρ1 => match ps with
  | [p, q] => .nx ((ρ1.set i (.sh p)).set j (.sh q))
  | _ => .bad
theorem ds_par {px py pt pt2 : Pos} {kt k2 : Nat} (c : Ctx X W k) (i j : Nat) (ha : DA X W [a, b] dl) (hij : i ≠ j := by decide) (hi : X.N[i]? = some x := by rfl) (hj : X.N[j]? = some y := by rfl) (hx : X.env.scope.names.lookup x = some .local := by rfl) (hy : X.env.scope.names.lookup y = some .local := by rfl)
    (hw : swappedStores [.Tuple [.Name x px, .Name y py] kt pt] (.Tuple [a, b] k2 pt2) X.env = pure (some [x, y]) := by rfl) (hs : swapsWithSole [.Tuple [.Name x px, .Name y py] kt pt] (.Tuple [a, b] k2 pt2) pos.line X.env = pure false := by rfl) :
    DS X W fr (.Assign [.Tuple [.Name x px, .Name y py] kt pt] (.Tuple [a, b] k2 pt2) pos) (sPar i j dl) :=
  DS.of (ps_par c.calm c.nd hi hj hij hx hy ha hw hs) fun H₀ S₀ M S σ H ρ D ab hp => XOk.bindS (Rl := rL X.K) canon_ok ab hp fun ps ρ1 vs S1 H1 _ a1 _ r1 hp => by
    have r1 : RepL X.K S1 ps vs := r1
    cases r1 with
    | nil => exact hp.elim
    | cons g1 r2 =>
      cases r2 with
      | nil => exact hp.elim
      | cons g2 r3 =>
        cases r3 with
        | nil => exact ⟨_, _, rfl, hp S1 _ H1 ((a1.setSh g1).setSh g2)⟩
        | cons g3 r4 => exact hp.elim
@[simp] theorem ap_sPar {i j : Nat} {ρ : Env} : sPar i j dl ρ = (dl ρ).bindS fun ps ρ1 => match ps with
  | [p, q] => .nx ((ρ1.set i (.sh p)).set j (.sh q))
  | _ => .bad := id rfl
@[simp] theorem ap_fdivW (i j : Int) : gFdivW (.int i) (.int j) = if decide (0 < j) && decide (j.natAbs.log2 < 9000) then some (.int (i / j)) else none := id rfl
@[simp] theorem ap_gcd (i j : Int) : gGcd [.int i, .int j] = some (.int ((Nat.gcd i.natAbs j.natAbs : Nat) : Int)) := id rfl
@[simp] theorem ap_dLR1 {da : Den} {ρ : Env} : dLR1 da ρ = (da ρ).bind fun p ρ1 => match p with
  | .int j => lrg 0 j ρ1
  | _ => .bad := id rfl
@[simp] theorem ap_dLR2 {da db : Den} {ρ : Env} : dLR2 da db ρ = (da ρ).bind fun p ρ1 => (db ρ1).bind fun q ρ2 => match p, q with
  | .int i, .int j => lrg i j ρ2
  | _, _ => .bad := id rfl
theorem lrg_ok {i j : Int} {ρ : Env} (h1 : -10000000 ≤ i) (h2 : i ≤ 10000000) (h3 : -10000000 ≤ j) (h4 : j ≤ 10000000) (h5 : j - i ≤ 10000000) : lrg i j ρ = .ok (.lst (rangeP i (j - i).toNat)) ρ := by
  unfold lrg
  rw [if_pos]
  unfold rgOkB
  simp only [Bool.and_eq_true, decide_eq_true_eq]
  omega
@[simp] theorem ap_dRevL {da : Den} {ρ : Env} : dRevL da ρ = (da ρ).bind fun p ρ1 => match p with
  | .lst ps => .ok (.lst ps.reverse) ρ1
  | .klst ps => .ok (.lst ps.reverse) ρ1
  | _ => .bad := id rfl
@[simp] theorem ap_tupOfL (ps : List PV) : gTupOf [.lst ps] = some (.tup ps) := id rfl
@[simp] theorem ap_tupOfT (ps : List PV) : gTupOf [.tup ps] = some (.tup ps) := id rfl
end
end PL

set_option Elab.async false
set_option linter.all false
set_option maxRecDepth 100000
set_option maxHeartbeats 4000000
namespace PL
open PySem PySem.Spec L2
open PyProof.Rows hiding St
set_option autoImplicit false
/-! ### set(xs) of a list of whole numbers -/
abbrev eSet (w : World) : Obj := { cls := .type "set", dict := none, data := .set #[] 0 (.fresh 0 0 (!w.params.followText "set-order")) }
section
variable {P : Program} {w : World} {A : Around} {E : Value → Shared → Prop} {s : Shared}
set_option maxHeartbeats 3200000 in
theorem set_of_ints {l : Addr} {vs : Array Value} (ns : List Int) {Q : Value → Shared → Prop} (hcalm : A.handled = none) (hL : s.heap.IsList l vs) (hI : IntsAre vs.toList ns) (hroom : ns.length + 1 < scanBound)
    (K : ∀ (h2 : Heap) (tk c : Nat), SetR w h2 s.heap.objs.size (fun j => decide (j ∈ ns)) c → c ≤ ns.length → (∀ b o, s.heap.get? b = some o → h2.get? b = some o) → Q (.ref s.heap.objs.size) { s with heap := h2, toks := tk }) :
    wpAny (model P w) A (call (.type "set") [.ref l]) Q E s := by
  have size_eq : vs.size = ns.length := by rw [← IntsAre.length hI, Array.length_toList]
  obtain ⟨c, tl, hmro⟩ := F.called_set.mro
  have f1 := F.called_set.made
  have f2 := F.called_set.sub
  refine wpAny_call (codeAny_of_tree ?_)
  show wpAny _ _ (callAny (.type "set") _) _ _ _
  refine wpAny_pure ⟨Code.quiet_builtin _ (by decide +kernel), codeAny_builtin F.entry_type_call ?_⟩
  rw [Around.under_plain (weight_type_call_type "set" [.ref l] []) rfl]
  have f3 := F.called_set.notType
  have f4 := F.called_set.canCreate
  have f5 := F.typeCall_set_1 (.ref l)
  repeat (any_goals (first | assumption | wp_step))
  refine codeAny_mono (code_set_led1 (.ref l) (E := E) (Q₁ := fun obj s₁ => obj = .ref s.heap.objs.size ∧ s₁ = { s with heap := s.heap.push (eSet w) }) ⟨rfl, rfl⟩) fun r s₁ hr => ?_
  cases r with
  | error e => exact hr
  | ok fl =>
    cases fl with
    | ret obj =>
      obtain ⟨rfl, rfl⟩ := hr
      have hS : (s.heap.push (eSet w)).get? s.heap.objs.size = some (eSet w) := Heap.get?_push_size _ rfl
      have hT : Shared.TypeIs { s with heap := s.heap.push (eSet w) } (.ref s.heap.objs.size) "set" := ⟨_, hS, rfl⟩
      have f6 := F.called_set.init.lookup
      have f7 := F.called_set.init.bind (.ref s.heap.objs.size)
      repeat (any_goals (first | assumption | wp_step))
      refine codeAny_mono (codeAny_call_builtin (R := wants (fun r s₂ => r = .none ∧ ∃ h2 tk c, s₂ = { s with heap := h2, toks := tk } ∧ SetR w h2 s.heap.objs.size (fun j => decide (j ∈ ns)) c ∧ c ≤ ns.length ∧
          (∀ b o, s.heap.get? b = some o → h2.get? b = some o)) E) F.called_set.init.plain F.entry_set_init (check_set_init_1 hT ?_)) fun r₂ s₂ hr₂ => ?_
      · obtain ⟨⟨ocls, odict, odata, oslots⟩, hol, hcl, nl, hdl⟩ := hL
        simp only at hcl hdl
        subst hcl; subst hdl
        have hol2 : (s.heap.push (eSet w)).get? l = some { cls := .type "list", dict := odict, data := .seq vs nl, slots := oslots } := Heap.get?_push_of_some _ hol
        have g1 := F.sub_list_set
        have g2 := F.sub_list_frozenset
        have g3 : (Value.type "list" == Value.type "dict") = false := by decide
        have hL2 : (s.heap.push (eSet w)).IsList l vs := ⟨_, hol2, rfl, nl, rfl⟩
        unfold Builtin.«set.__init__» noKeywords Builtin.Frozenset.updateFrom
        generalize hPI : pyIter = PI
        wp_walk
        subst hPI
        refine wpAny_pyIter_list hL2 ?_
        refine wpAny_bind (wpAny_runValue ?_)
        have lt0 : l < s.heap.objs.size := Heap.lt_size hol
        have calm3 : A.in1.in1.in1.handled = none := by simp [hcalm]
        have sz1 : (s.heap.push (eSet w)).objs.size = s.heap.objs.size + 1 := Heap.size_push ..
        have ne1 : l ≠ (s.heap.push (eSet w)).objs.size := by rw [sz1]; exact Nat.ne_of_lt (Nat.lt_succ_of_lt lt0)
        have ne2 : s.heap.objs.size ∉ [(s.heap.push (eSet w)).objs.size, l] := by
          rw [sz1]; simp only [List.mem_cons, List.mem_singleton, List.not_mem_nil, or_false, not_or]
          exact ⟨Nat.ne_of_lt (Nat.lt_succ_self _), Nat.ne_of_gt lt0⟩
        have val : ∀ (i : Nat) (v : Value), vs[i]? = some v → ∃ k t, ns[i]? = some k ∧ v = .int k t := fun i v hv => by
          have hi : i < ns.length := by rw [← size_eq]; exact (Array.getElem?_eq_some_iff.mp hv).1
          obtain ⟨t, e⟩ := IntsAre.int_at hI i v (by rw [Array.getElem?_toList]; exact hv)
          refine ⟨ns[i], t, List.getElem?_eq_getElem hi, ?_⟩
          rw [e, List.getD_eq_getElem?_getD, List.getElem?_eq_getElem hi] <;> rfl
        refine set_update_ints ((Walks.list calm3 _ l ne1 vs).toS) s.heap.objs.size ne2 ns size_eq hroom val (vs.size - 0) 0 _ (by omega) (Nat.zero_le _)
          ⟨⟨_, Heap.get?_push_size _ rfl, rfl, rfl⟩, (hL2.push _)⟩ ⟨0, Nat.le_refl 0, setR_new_at (Heap.get?_push_of_some _ hS)⟩ ?_
        intro s3 c3 hm hc3 hS3
        obtain ⟨h3, g3, d3, tk3, os3⟩ := s3
        have eg : g3 = s.gens := hm.gens
        have ed : d3 = s.drawn := hm.drawn
        have eo : os3 = s.os := hm.os
        subst eg; subst ed; subst eo
        show wpAny _ _ _ _ _ _
        refine wpAny_pure ?_
        show wpAny _ _ (ret Value.none) _ _ _
        rw [size_eq] at hc3
        refine wpAny_pure ⟨rfl, h3, tk3, c3, rfl, hS3, hc3, fun b o e => ?_⟩
        have hb0 : b < s.heap.objs.size := Heap.lt_size e
        refine hm.heap b o ?_ (Heap.get?_push_of_some _ (Heap.get?_push_of_some _ e))
        simp only [List.mem_cons, List.mem_singleton, List.not_mem_nil, or_false, not_or]
        exact ⟨Nat.ne_of_lt hb0, by rw [sz1]; exact Nat.ne_of_lt (Nat.lt_succ_of_lt hb0)⟩
      · cases r₂ with
        | error e => exact hr₂
        | ok fl₂ =>
          cases fl₂ with
          | ret r =>
            obtain ⟨rfl, h2, tk, c, rfl, a1, a2, a3⟩ := hr₂
            repeat (any_goals (first | assumption | wp_step))
            exact K _ _ _ a1 a2 a3
          | _ => exact hr₂.elim
    | _ => exact hr.elim
end
/-! ### sorted, every number once -/
def insU (n : Int) : List Int → List Int
  | [] => [n]
  | m :: l => if n < m then n :: m :: l else if n = m then m :: l else m :: insU n l
def sortU : List Int → List Int
  | [] => []
  | n :: l => insU n (sortU l)
theorem insU_mem {n k : Int} : ∀ {l : List Int}, k ∈ insU n l ↔ k = n ∨ k ∈ l
  | [] => by simp [insU]
  | m :: l => by
    unfold insU
    split
    · simp
    · split
      · rename_i h
        subst h
        simp
      · simp only [List.mem_cons, insU_mem (l := l)]
        constructor
        · rintro (h | h | h) <;> simp [h]
        · rintro (h | h | h) <;> simp [h]
theorem sortU_mem {k : Int} : ∀ {l : List Int}, k ∈ sortU l ↔ k ∈ l
  | [] => by simp [sortU]
  | n :: l => by simp [sortU, insU_mem, sortU_mem (l := l)]
theorem insU_lt {n : Int} : ∀ {l : List Int}, l.Pairwise (· < ·) → (insU n l).Pairwise (· < ·)
  | [], _ => by simp [insU]
  | m :: l, h => by
    have h1 := List.pairwise_cons.mp h
    unfold insU
    split
    · rename_i hz
      refine List.pairwise_cons.mpr ⟨fun a ha => ?_, h⟩
      rcases List.mem_cons.mp ha with e | e
      · rw [e]; exact hz
      · exact Int.lt_trans hz (h1.1 a e)
    · split
      · exact h
      · rename_i hz hn
        refine List.pairwise_cons.mpr ⟨fun a ha => ?_, insU_lt h1.2⟩
        rcases insU_mem.mp ha with e | e
        · rw [e]; omega
        · exact h1.1 a e
theorem sortU_lt : ∀ l : List Int, (sortU l).Pairwise (· < ·)
  | [] => .nil
  | n :: l => insU_lt (sortU_lt l)
theorem sortU_nodup (l : List Int) : (sortU l).Nodup := (sortU_lt l).imp fun h => by omega
theorem perm_of_nodup {l m : List Int} (hl : l.Nodup) (hm : m.Nodup) (h : ∀ k, k ∈ l ↔ k ∈ m) : l.Perm m := (List.perm_ext_iff_of_nodup hl hm).mpr h
theorem sortU_uniq {l m : List Int} (h : m.Pairwise (· < ·)) (e : ∀ k, k ∈ m ↔ k ∈ l) : m = sortU l :=
  (perm_of_nodup (h.imp fun h => by omega) (sortU_nodup l) fun k => (e k).trans sortU_mem.symm).eq_of_pairwise (fun a b _ _ h1 h2 => absurd h1 (by omega)) h (sortU_lt l)
theorem insU_len (n : Int) : ∀ l : List Int, (insU n l).length ≤ l.length + 1
  | [] => by simp [insU]
  | m :: l => by
    unfold insU
    split
    · simp
    · split
      · simp
      · have := insU_len n l
        simp; omega
theorem sortU_len : ∀ l : List Int, (sortU l).length ≤ l.length
  | [] => Nat.le_refl _
  | n :: l => by
    have h1 := insU_len n (sortU l)
    have h2 := sortU_len l
    simp only [sortU, List.length_cons]
    omega
section
variable {X : Cx} {W : WX} {fr : Bool} {k : Nat} {pos p p2 p3 : Pos} {e a b : Expr} {es : List Expr} {da db : Den} {x : Str}
def rSetI (K : PySem.W.Frag) (w : World) : List V → Hp → VK → Prop := fun xs H Q => ∃ (l : Addr) (ns : List Int), xs = [.ref l] ∧ SqL K H l (ns.map V.int) ∧ ns.length ≤ 4000 ∧
  ∀ p, H p = none → Q (.ref p) (upd H p (SetO w p (fun j => decide (j ∈ ns)) (sortU ns).length))
theorem cr_setI (hc : X.calm = true) : CallR X (.type "set") (rSetI X.K X.w) := by
  intro pins s σ H xs us Q I r h
  obtain ⟨l, ns, rfl, hq, hl, q⟩ := h
  rw [Vals.ref1 r]
  obtain ⟨its, rv, pl, hz⟩ := I.list hq
  refine set_of_ints ns (I.ok.hd hc) pl.isList (by simpa using rv.ints) (by unfold scanBound; omega) fun h2 tk c hS hc2 hk => ?_
  have ec : c = (sortU ns).length := by
    obtain ⟨o, es, ep, t, _, _, _, _, nd, mem, _, _, sz, _⟩ := hS
    have e1 := (perm_of_nodup nd (sortU_nodup ns) fun k => by rw [← mem k, sortU_mem]; simp).length_eq
    rw [List.length_map, Array.length_toList] at e1
    omega
  subst ec
  exact ⟨.ref _, upd H s.heap.objs.size (SetO X.w s.heap.objs.size (fun j => decide (j ∈ ns)) (sortU ns).length), I.laid (t' := tk) hk (Nat.le_refl _) (setO_new hS), rfl, q _ (I.hok.fresh (Nat.le_refl _))⟩
def rLenSet (w : World) : List V → Hp → VK → Prop := fun xs H Q => ∃ (a : Addr) (S : Int → Bool) (n : Nat), xs = [.ref a] ∧ H a = some (SetO w a S n) ∧ n ≤ 4000 ∧ Q (.int (n : Nat)) H
theorem cr_lenSet : CallR X (.builtin "len") (rLenSet X.w) := by
  intro pins s σ H xs us Q I r h
  obtain ⟨a, S, n, rfl, ha, hn, q⟩ := h
  rw [Vals.ref1 r]
  obtain ⟨o, es, ep, t, ho, hex, hd, _, _, _, _, hf, sz, _⟩ := setO_get I ha
  exact call_len_set ho hex hd hf (by omega) ⟨.int n, H, I.tok _, ⟨_, by rw [sz]⟩, q⟩
def intsOf (p : PV) : Option (List Int) := match p with
  | .lst ps => ints? ps
  | _ => none
def dSortSet (da : Den) : Den := fun ρ => (da ρ).bind fun p ρ1 => match intsOf p with
  | some ns => if ns.length ≤ 4000 ∧ (sortU ns).length < 64 then .ok (.lst ((sortU ns).map .int)) ρ1 else .bad
  | none => .bad
def dLenSet (da : Den) : Den := fun ρ => (da ρ).bind fun p ρ1 => match intsOf p with
  | some ns => if ns.length ≤ 4000 then .ok (.int (sortU ns).length) ρ1 else .bad
  | none => .bad
theorem df_sortSet (c : Ctx X W k) (B : Bi X.mg) (ha : DE X W a da) (hg : Gl X "sorted" := by rfl) (hg2 : Gl X "set" := by rfl) (na : starEach [a] X.env = (false, eval a X.env) :: starEach [] X.env := by rfl) (nb : starEach [.Call (.Name "set" p2) [a] [] p3] X.env = (false, eval (.Call (.Name "set" p2) [a] [] p3) X.env) :: starEach [] X.env := by rfl) :
    DF X W (.Call (.Name "sorted" p) [.Call (.Name "set" p2) [a] [] p3] [] pos) (dSortSet da) :=
  DF.of (pe_callB (cr_sortedSet c.calm) hg B.sorted (by decide +kernel) (pa_cons (pe_callTy (cr_setI c.calm) hg2 B.set (by decide +kernel) (pa_cons ha pa_nil na) (by decide) (by decide) na rfl) pa_nil nb) (by decide) (by decide) nb rfl) fun H₀ S₀ M S σ H ρ Q ab hp =>
    canon_ok.bind (Rl := rV X.K) (Rl' := rF X.K) ab hp fun q ρ1 v S1 H1 _ a1 _ r1 hp => by
      have r1 : Rep X.K S1 q v := r1
      cases e1 : intsOf q with
      | none => simp only [e1] at hp; exact hp.elim
      | some ns =>
        simp only [e1] at hp
        split at hp
        · rename_i hz
          unfold intsOf at e1
          split at e1
          · cases r1 with
            | lst h1 h2 =>
              have e2 := ints_rep e1 h2
              subst e2
              refine ⟨_, ns, rfl, .inl (.inl (a1.sub _ _ h1)), hz.1, fun b n => ?_⟩
              refine ⟨b, _, _, rfl, upd_same, hz.2, fun ms c hs hm _ n2 => ?_⟩
              have e3 := sortU_uniq hs (l := ns) fun k => by rw [hm k]; simp
              subst e3
              have a2 := a1.step (Step.hid (o := SetO X.w b (fun j => decide (j ∈ ns)) (sortU ns).length) a1.sub n)
              exact hp _ S1 _ (a2.fresh n2 (p := .lst _) (o := .lst _) (repInts _)).1 (a2.fresh n2 (p := .lst _) (o := .lst _) (repInts _)).2
          · cases e1
        · exact hp.elim
theorem de_lenSet (c : Ctx X W k) (B : Bi X.mg) (ha : DE X W a da) (hg : Gl X "len" := by rfl) (hg2 : Gl X "set" := by rfl) (na : starEach [a] X.env = (false, eval a X.env) :: starEach [] X.env := by rfl) (nb : starEach [.Call (.Name "set" p2) [a] [] p3] X.env = (false, eval (.Call (.Name "set" p2) [a] [] p3) X.env) :: starEach [] X.env := by rfl) :
    DE X W (.Call (.Name "len" p) [.Call (.Name "set" p2) [a] [] p3] [] pos) (dLenSet da) :=
  DE.of (pe_callB cr_lenSet hg B.len (by decide +kernel) (pa_cons (pe_callTy (cr_setI c.calm) hg2 B.set (by decide +kernel) (pa_cons ha pa_nil na) (by decide) (by decide) na rfl) pa_nil nb) (by decide) (by decide) nb rfl) fun H₀ S₀ M S σ H ρ Q ab hp =>
    canon_ok.bind (Rl := rV X.K) (Rl' := rV X.K) ab hp fun q ρ1 v S1 H1 _ a1 _ r1 hp => by
      have r1 : Rep X.K S1 q v := r1
      cases e1 : intsOf q with
      | none => simp only [e1] at hp; exact hp.elim
      | some ns =>
        simp only [e1] at hp
        split at hp
        · rename_i hz
          unfold intsOf at e1
          split at e1
          · cases r1 with
            | lst h1 h2 =>
              have e2 := ints_rep e1 h2
              subst e2
              refine ⟨_, ns, rfl, .inl (.inl (a1.sub _ _ h1)), hz, fun b n => ?_⟩
              have a2 := a1.step (Step.hid (o := SetO X.w b (fun j => decide (j ∈ ns)) (sortU ns).length) a1.sub n)
              exact ⟨b, _, _, rfl, upd_same, Nat.le_trans (sortU_len ns) hz, hp _ S1 _ a2 (.int _)⟩
          · cases e1
        · exact hp.elim
@[simp] theorem ap_dSortSet {ρ : Env} : dSortSet da ρ = (da ρ).bind fun p ρ1 => match intsOf p with
  | some ns => if ns.length ≤ 4000 ∧ (sortU ns).length < 64 then .ok (.lst ((sortU ns).map .int)) ρ1 else .bad
  | none => .bad := id rfl
@[simp] theorem ap_dLenSet {ρ : Env} : dLenSet da ρ = (da ρ).bind fun p ρ1 => match intsOf p with
  | some ns => if ns.length ≤ 4000 then .ok (.int (sortU ns).length) ρ1 else .bad
  | none => .bad := id rfl
end
end PL

set_option Elab.async false
set_option linter.all false
set_option maxRecDepth 100000
set_option maxHeartbeats 4000000
namespace PL
open PySem PySem.Spec L2
set_option autoImplicit false
/-! ### a body, statement by statement -/
theorem sq_step {a b : DenS} {ρ ρ1 : Env} {r : RS} (h : a ρ = .nx ρ1) (h2 : b ρ1 = r) : sSeq a b ρ = r := by rw [seq_nx h]; exact h2
theorem szn {n : Nat} (h : n ≤ 1000000) : n ≤ sizeLine := by rw [sizeLine_eq]; omega
theorem szl {n : Nat} (h : n ≤ 1000000) : n < sizeLine := by rw [sizeLine_eq]; omega
theorem smI {i : Int} (h1 : -1000000000000000000 ≤ i) (h2 : i ≤ 1000000000000000000) : smallI i = true := by
  unfold smallI
  simp only [Bool.and_eq_true, decide_eq_true_eq]
  omega
theorem tkn {ds : List Int} {m : Nat} (h : 0 < m) : ∃ v : Nat, v < m ∧ (tk ds m).1 = v := by
  have h1 := tk_lt (ds := ds) (m := (m : Int)) (by omega)
  obtain ⟨v, hv⟩ := Int.eq_ofNat_of_zero_le h1.1
  exact ⟨v, by omega, hv⟩
theorem take_nat (ds : List Int) (m : Nat) (h : 0 < m) : ∃ (v : Nat) (ds' : List Int), v < m ∧ F_take [dk ds, .int (m : Int)] = .ok (.int (v : Int)) (dk ds') := by
  obtain ⟨v, h1, h2⟩ := tkn (ds := ds) h
  exact ⟨v, _, h1, by rw [F_take_eq (by omega), h2]⟩
theorem take_int (ds : List Int) (m : Int) (h : 0 < m) : ∃ (v : Int) (ds' : List Int), 0 ≤ v ∧ v < m ∧ F_take [dk ds, .int m] = .ok (.int v) (dk ds') := by
  have h1 := tk_lt (ds := ds) (m := m) h
  exact ⟨_, _, h1.1, h1.2, F_take_eq h⟩
/-! ### comprehensions without an effect -/
theorem lc_mapG {own : List Nat} {tg : DenG} {E : Den} {α : Type} (g f : α → PV) (ρ : Env) : ∀ (l : List α), (∀ c ∈ l, ∃ ρ1 ρ2, tg (g c) ρ = some ρ1 ∧ E ρ1 = .ok (f c) ρ2 ∧ noOw ρ2 = true ∧ wipeE own ρ2 = ρ) → lcLoop own tg bYes E (l.map g) ρ = some (l.map f, ρ)
  | [], _ => rfl
  | c :: l, h => by
    obtain ⟨ρ1, ρ2, h1, h2, h3, h4⟩ := h c List.mem_cons_self
    have ih := lc_mapG (own := own) (tg := tg) (E := E) g f ρ l fun d hd => h d (List.mem_cons_of_mem _ hd)
    rw [List.map_cons, lcLoop]
    simp only [h1, h2, h3, if_true, h4, ap_bYes, ih, List.map_cons]
theorem lc_filter {own : List Nat} {tg : DenG} {T : DenB} {E : Den} {α : Type} (g f : α → PV) (t : α → Bool) (ρ : Env) : ∀ (l : List α), (∀ c ∈ l, ∃ ρ1 ρ2, tg (g c) ρ = some ρ1 ∧ T ρ1 = .ok (t c) ρ2 ∧ if t c = true then ∃ ρ3, E ρ2 = .ok (f c) ρ3 ∧ noOw ρ3 = true ∧ wipeE own ρ3 = ρ else noOw ρ2 = true ∧ wipeE own ρ2 = ρ) → lcLoop own tg T E (l.map g) ρ = some ((l.filter t).map f, ρ)
  | [], _ => rfl
  | c :: l, h => by
    obtain ⟨ρ1, ρ2, h1, h2, h3⟩ := h c List.mem_cons_self
    have ih := lc_filter (own := own) (tg := tg) (T := T) (E := E) g f t ρ l fun d hd => h d (List.mem_cons_of_mem _ hd)
    rw [List.map_cons, lcLoop]
    cases ht : t c with
    | true =>
      rw [if_pos ht] at h3
      obtain ⟨ρ3, h4, h5, h6⟩ := h3
      simp only [h1, h2, ht, h4, h5, if_true, h6, ih, List.filter_cons, List.map_cons]
    | false =>
      rw [if_neg (by simp [ht])] at h3
      simp only [h1, h2, ht, h3.1, if_true, h3.2, ih, List.filter_cons, Bool.false_eq_true, if_false]
theorem ints_map : ∀ l : List Int, ints? (l.map .int) = some l
  | [] => rfl
  | i :: l => by simp [ints?, ints_map l]
theorem ints_mapF {α : Type} (f : α → Int) : ∀ l : List α, ints? (l.map fun c => PV.int (f c)) = some (l.map f)
  | [] => rfl
  | i :: l => by simp [ints?, ints_mapF f l]
theorem rangeP_map (lo : Int) (n : Nat) : rangeP lo n = (List.range n).map fun i => PV.int (lo + (i : Nat)) := rfl
/-! ### equal data -/
theorem okD_lay : ∀ (n : Nat) (p : PV), okD n p = true → p.toD.canLay0 = true ∧ p.toD.depth ≤ n
  | 0, p, h => by simp [okD] at h
  | n + 1, p, h => by
    have ih := okD_lay n
    have seq : ∀ (ps : List PV), okDs n ps = true → (PV.lst ps).toD.canLay0 = true ∧ (PV.lst ps).toD.depth ≤ n + 1 ∧ (PV.tup ps).toD.canLay0 = true ∧ (PV.tup ps).toD.depth ≤ n + 1 := by
      intro ps h3
      have h3 := okDs_iff.mp h3
      have h4 : PyData.canLayAll0 (toDs ps) = true := canAll_iff.mpr fun q hq => (ih q (h3 q hq)).1
      have h5 : PyData.depthAll (toDs ps) ≤ n := depthAll_le fun q hq => (ih q (h3 q hq)).2
      refine ⟨?_, ?_, ?_, ?_⟩
      · simp only [PV.toD, PyData.canLay0]; exact h4
      · simp only [PV.toD, PyData.depth]; omega
      · simp only [PV.toD, PyData.canLay0]; exact h4
      · simp only [PV.toD, PyData.depth]; omega
    cases p with
    | lst ps =>
      have h : ps.length ≤ 100000 ∧ okDs n ps = true := by simpa [okD] using h
      exact ⟨(seq ps h.2).1, (seq ps h.2).2.1⟩
    | tup ps =>
      have h : ps.length ≤ 100000 ∧ okDs n ps = true := by simpa [okD] using h
      exact ⟨(seq ps h.2).2.2.1, (seq ps h.2).2.2.2⟩
    | ktup ps =>
      have h : ps.length ≤ 100000 ∧ okDs n ps = true := by simpa [okD] using h
      exact ⟨(seq ps h.2).2.2.1, (seq ps h.2).2.2.2⟩
    | non => exact ⟨by decide +kernel, by simp [PV.toD, PyData.depth]⟩
    | bl b => cases b <;> exact ⟨by decide +kernel, by simp [PV.toD, PyData.depth]⟩
    | int i => exact ⟨by simp [PV.toD, PyData.canLay0], by simp [PV.toD, PyData.depth]⟩
    | str x =>
      have h : PyData.canLay0 (.str x) = true := by simpa [okD] using h
      exact ⟨by simpa [PV.toD] using h, by simp [PV.toD, PyData.depth]⟩
    | klst ps => simp [okD] at h
    | dic t ks vs => simp [okD] at h
    | fn a => simp [okD] at h
theorem okD_shaped {n : Nat} {p : PV} (h : okD n p = true) (hn : n ≤ 64) : SeqAt.shaped p.toD = true := by
  obtain ⟨h1, h2⟩ := okD_lay n p h
  simp only [SeqAt.shaped, h1, Bool.true_and, decide_eq_true_eq]
  omega
theorem pvEq_refl {n : Nat} {p : PV} (h : okD n p = true) : pvEq p p = true := SeqAt.eqv_refl _ (okD_lay n p h).1
theorem gEq_same {n : Nat} {p : PV} (h : okD n p = true) (hn : n ≤ 64) : gEq p p = some (.bl true) := by
  unfold gEq
  rw [okD_shaped h hn, pvEq_refl h]
  rfl
theorem gNe_same {n : Nat} {p : PV} (h : okD n p = true) (hn : n ≤ 64) : gNe p p = some (.bl false) := by
  unfold gNe
  rw [okD_shaped h hn, pvEq_refl h]
  rfl
theorem gEq_of {n : Nat} {p q : PV} (h : okD n p = true) (h' : okD n q = true) (hn : n ≤ 64) : gEq p q = some (.bl (pvEq p q)) := by
  unfold gEq
  rw [okD_shaped h hn, okD_shaped h' hn]
  rfl
theorem gNe_of {n : Nat} {p q : PV} (h : okD n p = true) (h' : okD n q = true) (hn : n ≤ 64) : gNe p q = some (.bl (!pvEq p q)) := by
  unfold gNe
  rw [okD_shaped h hn, okD_shaped h' hn]
  rfl
def isS (r : FR) (z : Str) : Bool := match r with
  | .ok (.str x) .non => x == z
  | _ => false
theorem isS_ok {r : FR} {z : Str} (h : isS r z = true) : r = .ok (.str z) .non := by
  unfold isS at h
  split at h
  · rw [beq_iff_eq] at h
    subst h
    rfl
  · cases h
/-! ### slots given back, one by one -/
def backR (own : List Nat) : Nat → Env → Env → Env
  | _, [], _ => []
  | k, s :: r, [] => (if own.contains k then clean s else Sl.back s .un) :: backR own (k + 1) r []
  | k, s :: r, t :: r' => (if own.contains k then clean s else Sl.back s t) :: backR own (k + 1) r r'
theorem backR_eq (own : List Nat) : ∀ (ρ ρ' : Env) (k : Nat), backR own k ρ ρ' = (List.range ρ.length).map fun i => if own.contains (k + i) then clean (ρ.getD i .un) else Sl.back (ρ.getD i .un) (ρ'.getD i .un)
  | [], _, _ => by simp [backR]
  | s :: r, [], k => by
    rw [backR, backR_eq own r [] (k + 1), List.length_cons, List.range_succ_eq_map]
    simp [Nat.add_assoc, Nat.add_comm 1, Function.comp_def]
  | s :: r, t :: r', k => by
    rw [backR, backR_eq own r r' (k + 1), List.length_cons, List.range_succ_eq_map]
    simp [Nat.add_assoc, Nat.add_comm 1, Function.comp_def]
theorem ap_backE {own : List Nat} {ρ ρ' : Env} : backE own ρ ρ' = backR own 0 ρ ρ' := by
  rw [backR_eq]
  simp [backE]
theorem ceil_nat (a m : Nat) (hm : 0 < m) : -(-(a : Int) / (m : Int)) = (((a + m - 1) / m : Nat) : Int) := by
  have h1 := Nat.div_add_mod (a + m - 1) m
  have h2 := Nat.mod_lt (a + m - 1) hm
  generalize (a + m - 1) / m = q at *
  generalize (a + m - 1) % m = r at *
  have h3 : -(a : Int) = ((m - 1 - r : Nat) : Int) + (m : Int) * (-(q : Int)) := by
    have h4 : ((m * q + r : Nat) : Int) = ((a + m - 1 : Nat) : Int) := by rw [h1]
    rw [Int.natCast_add, Int.natCast_mul] at h4
    rw [Int.mul_neg]
    omega
  rw [h3, Int.add_mul_ediv_left _ _ (by omega), Int.ediv_eq_zero_of_lt (by omega) (by omega)]
  omega
/-! ### a def's answer by its body's -/
section
variable {io fr : Bool} {n len : Nat} {d : DenS} {ps : List PV} {env ρ : Env} {p q : PV} {x : Exn}
theorem run_rt (e : d env = .rt p ρ) (hl : ps.length = n := by rfl) (henv : argSl false ps ++ List.replicate (len - n) .un = env := by rfl) : runD false fr n len d ps = .ok p .non := by
  unfold runD
  rw [if_pos hl, henv, e]
  rfl
theorem run_nx (e : d env = .nx ρ) (hl : ps.length = n := by rfl) (henv : argSl false ps ++ List.replicate (len - n) .un = env := by rfl) : runD false false n len d ps = .ok .non .non := by
  unfold runD
  rw [if_pos hl, henv, e]
  rfl
theorem run_exc (e : d env = .exc x ρ) (hl : ps.length = n := by rfl) (henv : argSl io ps ++ List.replicate (len - n) .un = env := by rfl) : runD io fr n len d ps = .exc x := by
  unfold runD
  rw [if_pos hl, henv, e]
theorem run_io (e : d env = .rt p (.io q :: ρ)) (hl : ps.length = n := by rfl) (henv : argSl true ps ++ List.replicate (len - n) .un = env := by rfl) : runD true fr n len d ps = .ok p q := by
  unfold runD
  rw [if_pos hl, henv, e]
  rfl
theorem run_ionx (e : d env = .nx (.io q :: ρ)) (hl : ps.length = n := by rfl) (henv : argSl true ps ++ List.replicate (len - n) .un = env := by rfl) : runD true false n len d ps = .ok .non q := by
  unfold runD
  rw [if_pos hl, henv, e]
  rfl
end
/-! ### equality, part by part -/
def pvEqs (xs ys : List PV) : Bool := PyData.eqvAll (toDs xs) (toDs ys)
section
variable {x y : PV} {xs ys : List PV}
theorem pvEq_lst : pvEq (.lst xs) (.lst ys) = pvEqs xs ys := by simp [pvEq, PV.toD, PyData.eqv, pvEqs]
theorem pvEq_tup : pvEq (.tup xs) (.tup ys) = pvEqs xs ys := by simp [pvEq, PV.toD, PyData.eqv, pvEqs]
theorem pvEq_str (a b : Str) : pvEq (.str a) (.str b) = decide (a = b) := eqv_str a b
theorem pvEq_bl (a b : Bool) : pvEq (.bl a) (.bl b) = (a == b) := by simp [pvEq, PV.toD, PyData.eqv]
theorem pvEqs_nil : pvEqs [] [] = true := by simp [pvEqs, toDs, PyData.eqvAll]
theorem pvEqs_cons : pvEqs (x :: xs) (y :: ys) = (pvEq x y && pvEqs xs ys) := by simp [pvEqs, toDs, PyData.eqvAll, pvEq]
theorem pvEqs_nc : pvEqs [] (y :: ys) = false := by simp [pvEqs, toDs, PyData.eqvAll]
theorem pvEqs_cn : pvEqs (x :: xs) [] = false := by simp [pvEqs, toDs, PyData.eqvAll]
end
theorem pvEqs_len : ∀ {xs ys : List PV}, pvEqs xs ys = true → xs.length = ys.length
  | [], [], _ => rfl
  | [], _ :: _, h => by rw [pvEqs_nc] at h; cases h
  | _ :: _, [], h => by rw [pvEqs_cn] at h; cases h
  | x :: xs, y :: ys, h => by
    rw [pvEqs_cons, Bool.and_eq_true] at h
    simp [pvEqs_len h.2]
theorem pvEqs_map {α : Type} [DecidableEq α] {f : α → PV} (hf : ∀ x y, pvEq (f x) (f y) = decide (x = y)) : ∀ l m : List α, pvEqs (l.map f) (m.map f) = decide (l = m)
  | [], [] => pvEqs_nil
  | [], _ :: _ => by simp [pvEqs_nc]
  | _ :: _, [] => by simp [pvEqs_cn]
  | x :: l, y :: m => by
    rw [List.map_cons, List.map_cons, pvEqs_cons, hf, pvEqs_map hf l m]
    simp
theorem okDs_map {α : Type} {n : Nat} {f : α → PV} {l : List α} (h : ∀ x ∈ l, okD n (f x) = true) : okDs n (l.map f) = true := by
  rw [okDs_iff]
  intro p hp
  obtain ⟨x, hx, rfl⟩ := List.mem_map.mp hp
  exact h x hx
theorem okD_lst {n : Nat} {ps : List PV} (h1 : ps.length ≤ 100000) (h2 : okDs n ps = true) : okD (n + 1) (.lst ps) = true := by simp [okD, h1, h2]
theorem okD_tup {n : Nat} {ps : List PV} (h1 : ps.length ≤ 100000) (h2 : okDs n ps = true) : okD (n + 1) (.tup ps) = true := by simp [okD, h1, h2]
theorem okD_int {n : Nat} (i : Int) : okD (n + 1) (.int i) = true := rfl
theorem okD_bl {n : Nat} (i : Bool) : okD (n + 1) (.bl i) = true := rfl
theorem okD_non {n : Nat} : okD (n + 1) .non = true := rfl
theorem okD_st {n : Nat} {l : List Nat} (h : asc l) : okD (n + 1) (.str (st l)) = true := by
  show PyData.canLay0 (.str (st l)) = true
  simp only [PyData.canLay0]
  exact strOk_st h
/-! ### comprehensions over one name, without an effect -/
theorem noOw_setS {i : Nat} {p : PV} : ∀ {ρ : Env}, noOw ρ = true → noOw (ρ.set i (.sh p)) = true := by
  intro ρ
  induction ρ generalizing i with
  | nil => intro h; simpa using h
  | cons s r ih =>
    intro h
    rw [noOw_cons, Bool.and_eq_true] at h
    cases i with
    | zero => simp [h.2]
    | succ i => rw [List.set_cons_succ, noOw_cons, h.1, ih h.2]; rfl
theorem set_un {ρ : Env} {i : Nat} {s : Sl} (h : ρ[i]? = some .un) : (ρ.set i s).set i .un = ρ := by
  rw [List.set_set]
  obtain ⟨hi, e⟩ := List.getElem?_eq_some_iff.mp h
  rw [← e]
  exact List.set_getElem_self hi
theorem lc_pure {α : Type} {i : Nat} {E : Den} {ρ : Env} (g f : α → PV) (l : List α) (h0 : ρ[i]? = some .un) (h1 : noOw ρ = true) (hE : ∀ c ∈ l, E (ρ.set i (.sh (g c))) = .ok (f c) (ρ.set i (.sh (g c)))) :
    lcLoop [i] (gName i) bYes E (l.map g) ρ = some (l.map f, ρ) :=
  lc_mapG g f ρ l fun c hc => ⟨_, _, rfl, hE c hc, noOw_setS h1, by simp only [wipeE]; exact set_un h0⟩
theorem lc_pureR {i n : Nat} {E : Den} {ρ : Env} (f : Nat → PV) (h0 : ρ[i]? = some .un) (h1 : noOw ρ = true) (hE : ∀ c, c < n → E (ρ.set i (.sh (.int (c : Nat)))) = .ok (f c) (ρ.set i (.sh (.int (c : Nat))))) :
    lcLoop [i] (gName i) bYes E (rangeP 0 n) ρ = some ((List.range n).map f, ρ) := by
  have e : rangeP 0 n = (List.range n).map fun i : Nat => PV.int (i : Int) := by simp [rangeP_map]
  rw [e]
  exact lc_pure (fun c : Nat => PV.int (c : Int)) f _ h0 h1 fun c hc => hE c (List.mem_range.mp hc)
theorem lc_pureF {α : Type} {i : Nat} {T : DenB} {E : Den} {ρ : Env} (g f : α → PV) (t : α → Bool) (l : List α) (h0 : ρ[i]? = some .un) (h1 : noOw ρ = true) (hT : ∀ c ∈ l, T (ρ.set i (.sh (g c))) = .ok (t c) (ρ.set i (.sh (g c)))) (hE : ∀ c ∈ l, t c = true → E (ρ.set i (.sh (g c))) = .ok (f c) (ρ.set i (.sh (g c)))) :
    lcLoop [i] (gName i) T E (l.map g) ρ = some ((l.filter t).map f, ρ) :=
  lc_filter g f t ρ l fun c hc => by
    refine ⟨_, _, rfl, hT c hc, ?_⟩
    split
    · rename_i h
      exact ⟨_, hE c hc h, noOw_setS h1, by simp only [wipeE]; exact set_un h0⟩
    · exact ⟨noOw_setS h1, by simp only [wipeE]; exact set_un h0⟩
theorem at0 {α : Type} (a : α) (l : List α) : L2.atI (a :: l) (0 : Int) = some a := atI_nat (xs := a :: l) (i := 0) (by simp)
theorem at1 {α : Type} (a b : α) (l : List α) : L2.atI (a :: b :: l) (1 : Int) = some b := atI_nat (xs := a :: b :: l) (i := 1) (by simp)
theorem at2 {α : Type} (a b c : α) (l : List α) : L2.atI (a :: b :: c :: l) (2 : Int) = some c := atI_nat (xs := a :: b :: c :: l) (i := 2) (by simp)
theorem at3 {α : Type} (a b c d : α) (l : List α) : L2.atI (a :: b :: c :: d :: l) (3 : Int) = some d := atI_nat (xs := a :: b :: c :: d :: l) (i := 3) (by simp)
@[simp] theorem ap_listOfL (ps : List PV) : gListOf [.lst ps] = some (.lst ps) := id rfl
@[simp] theorem ap_listOfT (ps : List PV) : gListOf [.tup ps] = some (.lst ps) := id rfl
theorem ap_sortedI (l : List Int) : gSorted [.lst (l.map .int)] = some (.lst ((sortI l).map .int)) := by simp [gSorted, ints_map]
theorem ap_sumI (l : List Int) : gSumN [.lst (l.map .int)] = some (.int l.sum) := by simp [gSumN, ints_map]
end PL

set_option Elab.async false
set_option linter.all false
set_option maxRecDepth 100000
set_option maxHeartbeats 4000000
namespace PL
open PySem PySem.Spec L2
set_option autoImplicit false
/-! ### a local name that holds one of two defs of the module -/
def spN (sp : Sp) : Sp := fun vs H Q _ => sp vs H Q fun _ _ _ => False
theorem FnOk.calm {P : Program} {w : World} {K : PySem.W.Frag} {mg : Str → Option Value} {base : Heap} {k : Nat} {f : Addr} {fd : FuncData} {ps : List Str} {sp : Sp} (F : FnOk P w K mg base (L2.CX P w) k f fd ps sp) : FnOk P w K mg base CX0 k f fd ps (spN sp) :=
  ⟨fun vs H Q E h => F.len vs H Q _ h, fun A outer s H args us vs Q E hr he hb hv hs => codeAny_mono (F.run A outer s H args us vs Q (fun _ _ _ => False) hr he hb hv hs) fun r s' z => by
    cases r with
    | ok fin => cases fin <;> exact z
    | error e =>
      obtain ⟨_, _, _, _, _, _, _, _, _, _, _, _, z⟩ := z
      exact z.elim⟩
def dCallV (i : Nat) (x1 : Str) (F1 : List PV → FR) (x2 : Str) (F2 : List PV → FR) (dl : DenL) : Den := fun ρ => match ρ[i]? with
  | some (.sh (.fn x)) => if x = x1 then (dl ρ).bind fun ps ρ1 => (match F1 ps with
      | .ok p _ => .ok p ρ1
      | _ => .bad) else if x = x2 then (dl ρ).bind fun ps ρ1 => (match F2 ps with
      | .ok p _ => .ok p ρ1
      | _ => .bad) else .bad
  | _ => .bad
section
variable {X : Cx} {W : WX} {fr : Bool} {k j1 j2 n1 n2 : Nat} {pos p : Pos} {e : Expr} {es : List Expr} {dl : DenL} {x x1 x2 : Str} {F1 F2 : List PV → FR}
theorem callV_one {K : PySem.W.Frag} {mg : Str → Option Value} {n : Nat} {F : List PV → FR} {ta : TA} {H₀ S₀ : Hp} {M : Addr → Prop} {S H : Hp} {σ : St} {ρ : Env} {Q : VK} (ha : AOk K mg W ta dl) (hn : ∀ ps, F ps ≠ .bad → ps.length = n) (ab : Abs K H₀ S₀ M S σ H ρ)
    (hp : Post K mg W (rV K) H₀ S₀ M σ ((dl ρ).bind fun ps ρ1 => (match F ps with
      | .ok p _ => .ok p ρ1
      | _ => .bad)) Q) : ta σ H fun vs H1 => spN (spD K mg false false n F) vs H1 Q (fun _ _ _ => False) :=
  ha.bind (Rl' := rV K) ab hp fun ps ρ1 vs S1 H1 _ a1 _ r hp => by
    cases e : F ps with
    | bad => simp only [e] at hp; exact hp.elim
    | exc x => simp only [e] at hp; exact hp.elim
    | ok p q =>
      simp only [e] at hp
      refine call_pre a1 r (hn ps (by rw [e]; intro z; cases z)) ?_
      simp only [e]
      exact fun v S' H' st rv => hp v S' H' (a1.step st) rv
theorem de_callV (i : Nat) (G1 : Fd X.prog X.w X.K X.mg X.base x1 j1 false false n1 F1) (m1 : X.mg x1 = some (.ref (He.ga X.K x1))) (G2 : Fd X.prog X.w X.K X.mg X.base x2 j2 false false n2 F2) (m2 : X.mg x2 = some (.ref (He.ga X.K x2))) (c : Ctx X W k) (ha : DA X W (e :: es) dl) (h1 : j1 ≤ k := by decide) (h2 : j2 ≤ k := by decide)
    (hN : X.N[i]? = some x := by rfl) (hv : Vis X.env.scope x := by first | exact Or.inl rfl | exact Or.inr (Or.inl rfl) | exact Or.inr (Or.inr rfl)) (hd : (x == ("__debug__" : Str)) = false := by decide) (hcd : (x == ("__classdict__" : Str)) = false := by decide)
    (he : starEach (e :: es) X.env = (false, eval e X.env) :: starEach es X.env := by rfl) (hpl : (backTo pos (starEach es X.env)).any (·.1) = false := by rfl) : DE X W (.Call (.Name x p) (e :: es) [] pos) (dCallV i x1 F1 x2 F2 dl) := by
  obtain ⟨f1, fd1, ps1, a1, b1, c1, d1⟩ := G1.ex
  obtain ⟨f2, fd2, ps2, a2, b2, c2, d2⟩ := G2.ex
  have e1 := b1.symm.trans m1
  have e2 := b2.symm.trans m2
  cases e1
  cases e2
  refine DE.of (C8.pe_cv (sp1 := spN (spD X.K X.mg false false n1 F1)) (sp2 := spN (spD X.K X.mg false false n2 F2)) ⟨_, _, FnOk.calm a1, c1, d1⟩ ⟨_, _, FnOk.calm a2, c2, d2⟩ c.room h1 h2 hN hv ha hd hcd he hpl) ?_
  intro H₀ S₀ M S σ H ρ Q ab hp
  unfold dCallV at hp
  split at hp
  · rename_i y ey
    obtain ⟨v, hv, rv⟩ := ab.sh i _ ey
    cases rv
    split at hp
    · rename_i hz
      subst hz
      exact .inl ⟨hv, callV_one canon_ok G1.len ab hp⟩
    · split at hp
      · rename_i hz
        subst hz
        exact .inr ⟨hv, callV_one canon_ok G2.len ab hp⟩
      · exact hp.elim
  · exact hp.elim
theorem de_fn (m : X.mg x = some (.ref (He.ga X.K x))) (hg : Gl X x := by rfl) (hd : (x == ("__debug__" : Str)) = false := by decide) : DE X W (.Name x pos) (dC (.fn x)) := de_glob (v := .ref (He.ga X.K x)) m rfl (fun _ => .fn _) hg hd
@[simp] theorem ap_dCallV {i : Nat} {ρ : Env} : dCallV i x1 F1 x2 F2 dl ρ = match ρ[i]? with
  | some (.sh (.fn x)) => if x = x1 then (dl ρ).bind fun ps ρ1 => (match F1 ps with
      | .ok p _ => .ok p ρ1
      | _ => .bad) else if x = x2 then (dl ρ).bind fun ps ρ1 => (match F2 ps with
      | .ok p _ => .ok p ρ1
      | _ => .bad) else .bad
  | _ => .bad := id rfl
end
end PL

set_option Elab.async false
set_option linter.all false
set_option maxRecDepth 100000
set_option maxHeartbeats 4000000
namespace PL
open PySem PySem.Spec L2
set_option autoImplicit false
/-! ### d[k] = v -/
def putVs : List PV → List PV → PV → PV → List PV
  | k :: ks, v :: vs, q, e => (if kEq k q = true then e else v) :: putVs ks vs q e
  | _, _, _, _ => []
def dPutQ (ks vs : List PV) (q e : PV) : List PV × List PV := if ks.any (fun k => kEq k q) = true then (ks, putVs ks vs q e) else (ks ++ [q], vs ++ [e])
theorem kEq_key (a b : Key) : kEq (keyPV a) (keyPV b) = decide (a = b) := by
  unfold kEq
  rw [kk?_key, kk?_key]
  by_cases h : a = b <;> simp [h]
section
variable {K : PySem.W.Frag} {S : Hp} {κ : Type} [DecidableEq κ] {f : κ → PV}
theorem put_any (hf : ∀ a b, kEq (f a) (f b) = decide (a = b)) (k : κ) : ∀ kvs : List (κ × V), (kvs.map fun p => f p.1).any (fun q => kEq q (f k)) = kvs.any fun kv => decide (kv.1 = k)
  | [] => rfl
  | p :: kvs => by simp [hf, Function.comp_def]
theorem put_keys (k : κ) (v : V) (kvs : List (κ × V)) : ((kvs.map fun kv => if kv.1 = k then (kv.1, v) else kv).map fun p => f p.1) = kvs.map fun p => f p.1 := by
  rw [List.map_map]
  refine List.map_congr_left fun p _ => ?_
  simp only [Function.comp]
  split <;> rfl
theorem put_vals (hf : ∀ a b, kEq (f a) (f b) = decide (a = b)) {k : κ} {v : V} {e : PV} (re : Rep K S e v) : ∀ {kvs : List (κ × V)} {ps : List PV}, RepL K S ps (kvs.map (·.2)) → RepL K S (putVs (kvs.map fun p => f p.1) ps (f k) e) ((kvs.map fun kv => if kv.1 = k then (kv.1, v) else kv).map (·.2))
  | [], _, h => by cases h; exact .nil
  | p :: kvs, _, h => by
    cases h with
    | cons h1 h2 =>
      have ih := put_vals hf (k := k) re h2
      simp only [List.map_cons, putVs, hf]
      by_cases hz : p.1 = k
      · simp only [hz, decide_true, if_true]
        exact .cons re ih
      · simp only [hz, decide_false, if_false, Bool.false_eq_true]
        exact .cons h1 ih
end
section
variable {K : PySem.W.Frag} {S : Hp}
theorem OwnO.putK {kvs : List (Key × V)} {ks ps : List PV} {k : Key} {v : V} {e : PV} (h : OwnO K S (.dic false ks ps) (.dK kvs)) (re : Rep K S e v) : OwnO K S (.dic false (dPutQ ks ps (keyPV k) e).1 (dPutQ ks ps (keyPV k) e).2) (.dK (L2.putK kvs k v)) := by
  obtain ⟨rfl, h⟩ := h
  unfold dPutQ L2.putK
  rw [put_any kEq_key]
  by_cases hz : (kvs.any fun kv => decide (kv.1 = k)) = true
  · rw [if_pos hz, if_pos hz]
    exact ⟨(put_keys k v kvs).symm, put_vals kEq_key re h⟩
  · rw [if_neg hz, if_neg hz]
    exact ⟨by simp, by rw [List.map_append]; exact h.append (.cons re .nil)⟩
theorem OwnO.putT {kvs : List (List Key × V)} {ks ps : List PV} {k : List Key} {v : V} {e : PV} (h : OwnO K S (.dic true ks ps) (.dT kvs)) (re : Rep K S e v) : OwnO K S (.dic true (dPutQ ks ps (.tup (k.map keyPV)) e).1 (dPutQ ks ps (.tup (k.map keyPV)) e).2) (.dT (L2.putK kvs k v)) := by
  obtain ⟨rfl, h⟩ := h
  unfold dPutQ L2.putK
  rw [put_any (f := fun k : List Key => PV.tup (k.map keyPV)) kEq_keys]
  by_cases hz : (kvs.any fun kv => decide (kv.1 = k)) = true
  · rw [if_pos hz, if_pos hz]
    exact ⟨(put_keys (f := fun k : List Key => PV.tup (k.map keyPV)) k v kvs).symm, put_vals (f := fun k : List Key => PV.tup (k.map keyPV)) kEq_keys re h⟩
  · rw [if_neg hz, if_neg hz]
    exact ⟨by simp, by rw [List.map_append]; exact h.append (.cons re .nil)⟩
end
def sPutD (i : Nat) (db da : Den) : DenS := fun ρ => (da ρ).bindS fun e ρ1 => match ownAt ρ1 i with
  | none => .bad
  | some _ => (db ρ1).bindS fun k ρ2 => match ownAt ρ2 i with
    | some (s, .dic t ks vs) => if (kGood t k && decide (ks.length < 100000)) = true then .nx (ρ2.set i (s.with (.dic t (dPutQ ks vs k e).1 (dPutQ ks vs k e).2))) else .bad
    | _ => .bad
section
variable {X : Cx} {W : WX} {fr : Bool} {k : Nat} {pos p p2 : Pos} {e a : Expr} {da db : Den} {x : Str}
theorem so_putD {K : PySem.W.Frag} {mg : Str → Option Value} {i : Nat} {ti te : TE} (hi : EOk K mg W ti db) (ha : EOk K mg W te da) : SOk K mg W fr (sDPut (tVar i) ti te) (sPutD i db da) := fun H₀ S₀ M S σ H ρ D ab hp =>
  ha.bindS ab hp fun e ρ1 y S1 H1 _ a1 _ ry hp => by
    cases e0 : ownAt ρ1 i with
    | none => rw [e0] at hp; exact hp.elim
    | some sp =>
      obtain ⟨s0, p0⟩ := sp
      rw [e0] at hp
      obtain ⟨e1, e2⟩ := ownAt_some e0
      obtain ⟨b, o, h1, h2, h3, h4, h5, h6⟩ := a1.own i _ _ e1 e2
      refine ⟨.ref b, h1, ?_⟩
      refine hi.bindS a1 hp fun q ρ2 x S2 H2 _ a2 s2 rx hp => ?_
      have rx : Rep K S2 q x := rx
      have ry : Rep K S1 e y := ry
      cases e3 : ownAt ρ2 i with
      | none => rw [e3] at hp; exact hp.elim
      | some sp =>
        obtain ⟨s, p⟩ := sp
        rw [e3] at hp
        obtain ⟨e4, e5⟩ := ownAt_some e3
        obtain ⟨b', o', k1, k2, k3, k4, k5, k6⟩ := a2.own i _ _ e4 e5
        rw [h1] at k1
        cases k1
        cases p with
        | dic t ks vs =>
          simp only at hp
          split at hp
          · rename_i hz
            simp only [Bool.and_eq_true, decide_eq_true_eq] at hz
            obtain ⟨hg, hl⟩ := hz
            obtain ⟨hg1, hg2⟩ := (Bool.and_eq_true _ _).mp hg
            have hs : (100000 : Nat) < sizeLine := by rw [sizeLine_eq]; decide
            refine ⟨b, ?_⟩
            have keyed : ∀ kk, key? q = some kk → ∃ H4, V.ref b = V.ref b ∧ DPut H2 b x y H4 ∧ D.nx σ H4 := fun kk hq => by
              have eq := key?_some hq
              subst eq
              have ex := rx.keyV
              subst ex
              cases t with
              | true => cases kk <;> cases hg2
              | false =>
                cases o' with
                | dK kvs =>
                  have hn : kvs.length < sizeLine := by
                    have : ks = kvs.map (fun p => keyPV p.1) := k6.1
                    rw [this, List.length_map] at hl
                    omega
                  exact ⟨_, rfl, DPut.k k5 hn, hp S2 σ _ (a2.mut e4 e5 h1 (OwnO.putK k6 (ry.up s2)))⟩
                | _ => exact k6.elim
            cases q with
            | tup qs =>
              cases rx with
              | tup g1 g2 =>
                rename_i c us
                have hk : ((keys? qs).map (Sum.inr : List Key → KK)).isSome = true := hg1
                cases hks : keys? qs with
                | none => rw [hks] at hk; cases hk
                | some kk =>
                  have eq := keys?_some hks
                  subst eq
                  have hx := a2.sub _ _ g1
                  rw [g2.keyVs] at hx
                  cases t with
                  | false => cases hg2
                  | true =>
                    cases o' with
                    | dT kvs =>
                      have hn : kvs.length < sizeLine := by
                        have : ks = kvs.map (fun p => .tup (p.1.map keyPV)) := k6.1
                        rw [this, List.length_map] at hl
                        omega
                      exact ⟨_, rfl, DPut.t k5 hx hn, hp S2 σ _ (a2.mut e4 e5 h1 (OwnO.putT k6 (ry.up s2)))⟩
                    | _ => exact k6.elim
            | int i => exact keyed (.inl i) rfl
            | str z => exact keyed (.inr z) rfl
            | _ => cases hg1
          · exact hp.elim
        | _ => exact hp.elim
theorem ds_putD (i : Nat) (c : Ctx X W k) (ho : PE X (.Name x p) (tVar i)) (hi : DE X W a db) (h : DE X W e da) (hs : swapsWith e (some (.Subscript (.Name x p) a p2)) pos.line X.env = pure false := by rfl) :
    DS X W fr (.Assign [.Subscript (.Name x p) a p2] e pos) (sPutD i db da) := DS.of (ps_dput (by have := c.hu; omega) ho hi h hs) (so_putD canon_ok canon_ok)
@[simp] theorem ap_sPutD {i : Nat} {ρ : Env} : sPutD i db da ρ = (da ρ).bindS fun e ρ1 => match ownAt ρ1 i with
  | none => .bad
  | some _ => (db ρ1).bindS fun k ρ2 => match ownAt ρ2 i with
    | some (s, .dic t ks vs) => if (kGood t k && decide (ks.length < 100000)) = true then .nx (ρ2.set i (s.with (.dic t (dPutQ ks vs k e).1 (dPutQ ks vs k e).2))) else .bad
    | _ => .bad := id rfl
end
end PL

set_option Elab.async false
set_option linter.all false
set_option maxRecDepth 100000
set_option maxHeartbeats 4000000
namespace PL
open PySem PySem.Spec L2
set_option autoImplicit false
/-! ### a dict walked: it is frozen meanwhile -/
def lk (b : Addr) (u : HO) (o : Obj) (H : Hp) : Hp := fun a => if a = b then (match H a with
  | some _ => some (.frz o u)
  | none => none) else H a
def ulk (b : Addr) (u : HO) (H : Hp) : Hp := fun a => if a = b then (match H a with
  | some _ => some u
  | none => none) else H a
def isD : HO → Prop
  | .dK _ => True
  | .dT _ => True
  | _ => False
section
variable {b a : Addr} {u x : HO} {o : Obj} {H : Hp}
theorem lk_ne (h : a ≠ b) : lk b u o H a = H a := if_neg h
theorem ulk_ne (h : a ≠ b) : ulk b u H a = H a := if_neg h
theorem lk_at (h : H b = some x) : lk b u o H b = some (.frz o u) := by simp [lk, h]
theorem ulk_at (h : H b = some x) : ulk b u H b = some u := by simp [ulk, h]
theorem lk_none (h : H a = none) : lk b u o H a = none := by
  unfold lk
  split
  · rw [h]
  · exact h
theorem lk_none' (h : lk b u o H a = none) : H a = none := by
  by_cases e : a = b
  · subst e
    cases q : H a with
    | none => rfl
    | some y => rw [lk_at q] at h; cases h
  · rwa [lk_ne e] at h
theorem lk_upd (h : H b = some x) : lk b u o H = upd H b (.frz o u) := by
  funext a
  by_cases e : a = b
  · subst e; rw [lk_at h, upd_same]
  · rw [lk_ne e, upd_ne e]
theorem ulk_upd (h : H b = some x) : ulk b u H = upd H b u := by
  funext a
  by_cases e : a = b
  · subst e; rw [ulk_at h, upd_same]
  · rw [ulk_ne e, upd_ne e]
end
section
variable {K : PySem.W.Frag} {b : Addr} {u : HO} {o : Obj}
theorem ne_lk {S : Hp} {a : Addr} {x : HO} (hu : isD u) (hS : ∀ x, S b = some x → x = u) (h : S a = some x) (hx : ¬ isD x) : a ≠ b := fun e => by
  subst e
  exact hx (hS x h ▸ hu)
theorem Rd.lk {S : Hp} {a : Addr} {x : HO} (hu : isD u) (hS : ∀ x, S b = some x → x = u) (h : Rd S a x) : Rd (lk b u o S) a x := by
  rcases h with h | ⟨o', h⟩
  · by_cases e : a = b
    · subst e
      rw [hS x h]
      exact .inr ⟨o, lk_at h⟩
    · exact .inl (by rw [lk_ne e]; exact h)
  · exact .inr ⟨o', by rw [lk_ne (ne_lk hu hS h fun z => z)]; exact h⟩
theorem Rd.ulk {S : Hp} {a : Addr} {x : HO} (hu : isD u) (hS : ∀ x, S b = some x → x = .frz o u) (h : Rd S a x) (hx : ∀ o' u', x ≠ .frz o' u') : Rd (ulk b u S) a x := by
  rcases h with h | ⟨o', h⟩
  · by_cases e : a = b
    · subst e
      exact (hx _ _ (hS x h)).elim
    · exact .inl (by rw [ulk_ne e]; exact h)
  · by_cases e : a = b
    · subst e
      have z := hS _ h
      cases z
      exact .inl (ulk_at h)
    · exact .inr ⟨o', by rw [ulk_ne e]; exact h⟩
section
variable {S : Hp} (hu : isD u) (hS : ∀ x, S b = some x → x = u)
include hu hS
mutual
theorem Rep.lk : ∀ (p : PV) (v : V), Rep K S p v → Rep K (PL.lk b u o S) p v
  | .non, _, h => by cases h; exact .non
  | .bl b, _, h => by cases h; exact .bl b
  | .int i, _, h => by cases h; exact .int i
  | .str x, _, h => by cases h; exact .str x
  | .fn a, _, h => by cases h; exact .fn a
  | .lst ps, _, h => by cases h with | lst h1 h2 => exact .lst (by rw [lk_ne (ne_lk hu hS h1 fun z => z)]; exact h1) (RepL.lk ps _ h2)
  | .tup ps, _, h => by cases h with | tup h1 h2 => exact .tup (by rw [lk_ne (ne_lk hu hS h1 fun z => z)]; exact h1) (RepL.lk ps _ h2)
  | .ktup ps, _, h => by
    cases h with
    | ktup h1 h2 =>
      refine .ktup ?_ (RepL.lk ps _ h2)
      rcases h1 with h1 | h1
      · exact .inl (Rd.lk hu hS h1)
      · exact .inr h1
  | .klst ps, _, h => by
    cases h with
    | klst h1 h2 =>
      refine .klst ?_ (RepL.lk ps _ h2)
      rcases h1 with h1 | h1
      · exact .inl (Rd.lk hu hS h1)
      · exact .inr h1
  | .dic t ks ps, _, h => by
    cases h with
    | dK h1 h2 => exact .dK (Rd.lk hu hS h1) (RepL.lk ps _ h2)
    | dT h1 h2 => exact .dT (Rd.lk hu hS h1) (RepL.lk ps _ h2)
theorem RepL.lk : ∀ (ps : List PV) (vs : List V), RepL K S ps vs → RepL K (PL.lk b u o S) ps vs
  | [], _, h => by cases h; exact .nil
  | p :: ps, _, h => by cases h with | cons h1 h2 => exact .cons (Rep.lk p _ h1) (RepL.lk ps _ h2)
end
end
section
variable {S : Hp} (hu : isD u) (hS : ∀ x, S b = some x → x = .frz o u)
include hu hS
theorem ne_ulk {a : Addr} {x : HO} (h : S a = some x) (hx : ∀ o' u', x ≠ .frz o' u') : a ≠ b := fun e => by
  subst e
  exact hx _ _ (hS x h)
mutual
theorem Rep.ulk : ∀ (p : PV) (v : V), Rep K S p v → Rep K (PL.ulk b u S) p v
  | .non, _, h => by cases h; exact .non
  | .bl b, _, h => by cases h; exact .bl b
  | .int i, _, h => by cases h; exact .int i
  | .str x, _, h => by cases h; exact .str x
  | .fn a, _, h => by cases h; exact .fn a
  | .lst ps, _, h => by cases h with | lst h1 h2 => exact .lst (by rw [ulk_ne (ne_ulk hu hS h1 fun _ _ z => nomatch z)]; exact h1) (RepL.ulk ps _ h2)
  | .tup ps, _, h => by cases h with | tup h1 h2 => exact .tup (by rw [ulk_ne (ne_ulk hu hS h1 fun _ _ z => nomatch z)]; exact h1) (RepL.ulk ps _ h2)
  | .ktup ps, _, h => by
    cases h with
    | ktup h1 h2 =>
      refine .ktup ?_ (RepL.ulk ps _ h2)
      rcases h1 with h1 | h1
      · exact .inl (Rd.ulk hu hS h1 fun _ _ z => nomatch z)
      · exact .inr h1
  | .klst ps, _, h => by
    cases h with
    | klst h1 h2 =>
      refine .klst ?_ (RepL.ulk ps _ h2)
      rcases h1 with h1 | h1
      · exact .inl (Rd.ulk hu hS h1 fun _ _ z => nomatch z)
      · exact .inr h1
  | .dic t ks ps, _, h => by
    cases h with
    | dK h1 h2 => exact .dK (Rd.ulk hu hS h1 fun _ _ z => nomatch z) (RepL.ulk ps _ h2)
    | dT h1 h2 => exact .dT (Rd.ulk hu hS h1 fun _ _ z => nomatch z) (RepL.ulk ps _ h2)
theorem RepL.ulk : ∀ (ps : List PV) (vs : List V), RepL K S ps vs → RepL K (PL.ulk b u S) ps vs
  | [], _, h => by cases h; exact .nil
  | p :: ps, _, h => by cases h with | cons h1 h2 => exact .cons (Rep.ulk p _ h1) (RepL.ulk ps _ h2)
end
end
theorem OwnO.lk {S : Hp} (hu : isD u) (hS : ∀ x, S b = some x → x = u) {p : PV} {w : HO} (h : OwnO K S p w) : OwnO K (PL.lk b u o S) p w := by
  unfold OwnO at h ⊢
  split at h
  · exact RepL.lk hu hS _ _ h
  · exact ⟨h.1, RepL.lk hu hS _ _ h.2⟩
  · exact ⟨h.1, RepL.lk hu hS _ _ h.2⟩
  · exact h.elim
theorem OwnO.ulk {S : Hp} (hu : isD u) (hS : ∀ x, S b = some x → x = .frz o u) {p : PV} {w : HO} (h : OwnO K S p w) : OwnO K (PL.ulk b u S) p w := by
  unfold OwnO at h ⊢
  split at h
  · exact RepL.ulk hu hS _ _ h
  · exact ⟨h.1, RepL.ulk hu hS _ _ h.2⟩
  · exact ⟨h.1, RepL.ulk hu hS _ _ h.2⟩
  · exact h.elim
section
variable {H₀ S₀ : Hp} {M : Addr → Prop} {S H : Hp} {σ : St} {ρ : Env}
theorem Abs.lk (a : Abs K H₀ S M S σ H ρ) (hu : isD u) (hb : S b = some u) : Abs K (PL.lk b u o H₀) (PL.lk b u o S) M (PL.lk b u o S) σ (PL.lk b u o H) ρ := by
  have hS : ∀ x, S b = some x → x = u := fun x e => by rw [hb] at e; cases e; rfl
  have hH : H b = some u := a.sub _ _ hb
  refine ⟨a.len, fun c x e => ?_, Same.refl _, fun _ _ e => .inl e, fun c x e m => ?_, fun c x e => ?_, fun i p e => ?_, fun i s p e es => ?_, a.dis⟩
  · by_cases h : c = b
    · subst h; rw [lk_at hb] at e; cases e; exact lk_at hH
    · rw [lk_ne h] at e ⊢; exact a.sub _ _ e
  · by_cases h : c = b
    · subst h
      cases q : H₀ c with
      | none => rw [lk_none q] at e; cases e
      | some y => rw [lk_at q] at e; cases e; exact lk_at hH
    · rw [lk_ne h] at e ⊢; exact a.keep _ _ e m
  · by_cases h : c = b
    · subst h; exact ⟨_, lk_at hH⟩
    · rw [lk_ne h] at e ⊢; exact a.there _ _ e
  · obtain ⟨v, h1, h2⟩ := a.sh i p e
    exact ⟨v, h1, Rep.lk hu hS _ _ h2⟩
  · obtain ⟨c, w, h1, h2, h3, h4, h5, h6⟩ := a.own i s p e es
    have hc : c ≠ b := fun z => by subst z; rw [hb] at h4; cases h4
    exact ⟨c, w, h1, fun z => lk_none (h2 z), h3, lk_none h4, by rw [lk_ne hc]; exact h5, OwnO.lk hu hS h6⟩
theorem Abs.ulk {S' H' : Hp} {σ' : St} {ρ' : Env} (a0 : Abs K H₀ S M S σ H ρ) (hu : isD u) (hb : S b = some u) (a : Abs K (PL.lk b u o H₀) (PL.lk b u o S) M S' σ' H' ρ') : Abs K H₀ S M (PL.ulk b u S') σ' (PL.ulk b u H') ρ' := by
  have fS : S' b = some (.frz o u) := a.base _ _ (lk_at hb)
  have fH : H' b = some (.frz o u) := a.sub _ _ fS
  have hS : ∀ x, S' b = some x → x = .frz o u := fun x e => by rw [fS] at e; cases e; rfl
  have hH : H b = some u := a0.sub _ _ hb
  refine ⟨a.len, fun c x e => ?_, fun c x e => ?_, fun c x e => ?_, fun c x e m => ?_, fun c x e => ?_, fun i p e => ?_, fun i s p e es => ?_, a.dis⟩
  · by_cases h : c = b
    · subst h; rw [ulk_at fS] at e; cases e; exact ulk_at fH
    · rw [ulk_ne h] at e ⊢; exact a.sub _ _ e
  · by_cases h : c = b
    · subst h; rw [hb] at e; cases e; exact ulk_at fS
    · rw [ulk_ne h]; exact a.base _ _ (by rw [lk_ne h]; exact e)
  · by_cases h : c = b
    · subst h; rw [ulk_at fS] at e; cases e; exact .inl hb
    · rw [ulk_ne h] at e
      rcases a.grow _ _ e with z | z | z
      · rw [lk_ne h] at z; exact .inl z
      · exact .inr (.inl (lk_none' z))
      · exact .inr (.inr z)
  · by_cases h : c = b
    · subst h
      have z := a0.keep _ _ e m
      rw [hH] at z; cases z
      exact ulk_at fH
    · rw [ulk_ne h]; exact a.keep _ _ (by rw [lk_ne h]; exact e) m
  · by_cases h : c = b
    · subst h; exact ⟨_, ulk_at fH⟩
    · rw [ulk_ne h]; exact a.there _ _ (show PL.lk b u o H₀ c = some x by rw [lk_ne h]; exact e)
  · obtain ⟨v, h1, h2⟩ := a.sh i p e
    exact ⟨v, h1, Rep.ulk hu hS _ _ h2⟩
  · obtain ⟨c, w, h1, h2, h3, h4, h5, h6⟩ := a.own i s p e es
    have hc : c ≠ b := fun z => by subst z; rw [fS] at h4; cases h4
    exact ⟨c, w, h1, fun z => lk_none' (h2 z), h3, by rw [ulk_ne hc]; exact h4, by rw [ulk_ne hc]; exact h5, OwnO.ulk hu hS h6⟩
theorem Fr.ulk {S' H' : Hp} {σ' : St} {ρ' : Env} {p : PV} {v : V} (hu : isD u) (fS : S' b = some (.frz o u)) (f : Fr K (PL.lk b u o H₀) S' H' σ' ρ' p v) : Fr K H₀ (PL.ulk b u S') (PL.ulk b u H') σ' ρ' p v := by
  obtain ⟨c, w, h1, h2, h3, h4, h5, h6⟩ := f
  have hS : ∀ x, S' b = some x → x = .frz o u := fun x e => by rw [fS] at e; cases e; rfl
  have hc : c ≠ b := fun z => by subst z; rw [fS] at h3; cases h3
  exact ⟨c, w, h1, lk_none' h2, by rw [ulk_ne hc]; exact h3, by rw [ulk_ne hc]; exact h4, OwnO.ulk hu hS h5, h6⟩
end
/-! the keys -/
theorem rep_keys {S : Hp} : ∀ k : List Key, RepL K S (k.map keyPV) (k.map kV)
  | [] => .nil
  | .inl i :: k => .cons (.int i) (rep_keys k)
  | .inr x :: k => .cons (.str x) (rep_keys k)
theorem itr_keysK {S H : Hp} {kvs : List (Key × V)} (h : S b = some (.frz o (.dK kvs))) : ItR K S H (kvs.map fun p => keyPV p.1) (Itk b o kvs) := by
  intro i S1 H1 s1 s2
  have hH := s2 _ _ (s1 _ _ h)
  refine ⟨fun hl => ⟨hH, by simpa using hl⟩, fun p e => ?_⟩
  rw [List.getElem?_map] at e
  cases q : kvs[i]? with
  | none => rw [q] at e; cases e
  | some kv =>
    rw [q] at e
    cases e
    refine ⟨⟨hH, (List.getElem?_eq_some_iff.mp q).1⟩, fun x H2 y => ?_⟩
    obtain ⟨rfl, k, v, h1, rfl⟩ := y
    rw [q] at h1
    cases h1
    exact ⟨S1, Step.refl s2, by cases k <;> constructor⟩
theorem itr_keysT {S H : Hp} {kvs : List (List Key × V)} (h : S b = some (.frz o (.dT kvs))) : ItR K S H (kvs.map fun p => .tup (p.1.map keyPV)) (Itkt b o kvs) := by
  intro i S1 H1 s1 s2
  have hH := s2 _ _ (s1 _ _ h)
  refine ⟨fun hl => ⟨hH, by simpa using hl⟩, fun p e => ?_⟩
  rw [List.getElem?_map] at e
  cases q : kvs[i]? with
  | none => rw [q] at e; cases e
  | some kv =>
    rw [q] at e
    cases e
    refine ⟨⟨hH, (List.getElem?_eq_some_iff.mp q).1⟩, fun x H2 y => ?_⟩
    obtain ⟨rfl, k, v, c, h1, rfl, hc⟩ := y
    rw [q] at h1
    cases h1
    cases z : S1 c with
    | some w =>
      have e2 := s2 _ _ z
      rw [hc] at e2
      cases e2
      exact ⟨S1, Step.refl s2, .tup z (rep_keys k)⟩
    | none =>
      refine ⟨upd S1 c (.tup (k.map kV)), ⟨same_upd z, Same.refl _, fun d w e2 => ?_, fun d w e2 => ?_⟩, .tup upd_same (rep_keys k)⟩
      · by_cases hd : d = c
        · subst hd; rw [upd_same] at e2; cases e2; exact hc
        · rw [upd_ne hd] at e2; exact s2 _ _ e2
      · by_cases hd : d = c
        · subst hd; rw [upd_same] at e2; cases e2; exact .inr (.inr ⟨_, rfl⟩)
        · rw [upd_ne hd] at e2; exact .inl e2
end
def dLcD (own : List Nat) (i : Nat) (tgt : DenG) (test : DenB) (elt : Den) : Den := fun ρ => (dVar i ρ).bind fun p ρ1 => match p with
  | .dic _ ks _ => (match lcLoop own tgt test elt ks (lockE own ρ1) with
    | some (ys, ρ2) => if ys.length ≤ 1000000 then .ok (.lst ys) (backE own ρ1 ρ2) else .bad
    | none => .bad)
  | _ => .bad
def tLockR (t : TE) : TE := fun σ H Q => tLockE t σ H Q ∨ t σ H Q
section
variable {X : Cx} {W : WX} {fr : Bool} {k : Nat} {pos p p2 : Pos} {e a : Expr} {da db : Den} {x : Str}
theorem pe_lockR {t : TE} (h : PE X e t) : PE X e (tLockR t) := ⟨fun pins s σ H Q I q => by
  rcases q with q | q
  · exact (pe_lock h).run pins s σ H Q I q
  · exact h.run pins s σ H Q I q⟩
theorem fo_lcD {K : PySem.W.Frag} {mg : Str → Option Value} {i : Nat} {g : TG} {dg : DenG} {tt : TT} {dt : DenB} {te : TE} {de : Den} {own : List Nat} (hg : GOk K g dg) (hgw : TgW own g) (hgm : GMono g) (ht : TOk K mg (fun _ _ _ _ => False) tt dt) (he : EOk K mg (fun _ _ _ _ => False) te de) :
    FOk K mg W (tLockR (tLc (iKeys (tVar i)) g tt te own)) (dLcD own i dg dt de) := fun H₀ S₀ M S σ H ρ Q ab hp => by
  have key : tVar i σ H fun v H1 => ∃ p ρ1 S1, Abs K H₀ S₀ M S1 σ H1 ρ1 ∧ Rep K S1 p v ∧ Post K mg W (rF K) H₀ S₀ M σ (match p with
    | .dic _ ks _ => (match lcLoop own dg dt de ks (lockE own ρ1) with
      | some (ys, ρ2) => if ys.length ≤ 1000000 then .ok (.lst ys) (backE own ρ1 ρ2) else .bad
      | none => .bad)
    | _ => .bad) Q := eo_var.bind (mg := mg) (Rl' := rF K) ab hp fun p ρ1 v S1 H1 _ a1 _ r1 hp => ⟨p, ρ1, S1, a1, r1, hp⟩
  obtain ⟨v, hv, q, ρ1, S1, a1, r1, hp⟩ := key
  have lock : ∀ {u : HO} {b : Addr} {ks : List PV} (hu : isD u) (e : S1 b = some u) (od : Obj), Post K mg W (rF K) H₀ S₀ M σ (match lcLoop own dg dt de ks (lockE own ρ1) with
      | some (ys, ρ2) => if ys.length ≤ 1000000 then .ok (.lst ys) (backE own ρ1 ρ2) else .bad
      | none => .bad) Q → Post K mg W (rF K) (lk b u od H₀) (lk b u od S1) M σ (match lcLoop own dg dt de ks (lockE own ρ1) with
      | some (ys, ρ2) => if ys.length ≤ 1000000 then .ok (.lst ys) (backE own ρ1 ρ2) else .bad
      | none => .bad) (fun v H' => H' b = some (.frz od u) ∧ Q v (upd H' b u)) := by
    intro u b ks hu e od hp
    cases eL : lcLoop own dg dt de ks (lockE own ρ1) with
    | none => simp only [eL] at hp; exact hp.elim
    | some yr =>
      obtain ⟨ys, ρ2⟩ := yr
      simp only [eL] at hp ⊢
      by_cases hl : ys.length ≤ 1000000
      · rw [if_pos hl] at hp ⊢
        intro v S' H' a' f
        have fS := a'.base _ _ (lk_at e)
        have fH := a'.sub _ _ fS
        refine ⟨fH, ?_⟩
        rw [← ulk_upd fH]
        exact hp v _ _ (a1.unbase (Abs.ulk a1.rebase hu e a')) (Fr.ulk hu fS f)
      · rw [if_neg hl] at hp; exact hp.elim
  cases q with
  | dic t ks ps =>
    have r1 : Rep K S1 (.dic t ks ps) v := r1
    cases r1 with
    | @dK b kvs _ h1 h2 =>
      rcases h1 with e | ⟨o, e⟩
      · refine .inl ⟨b, .dK kvs, a1.sub _ _ e, trivial, fun od => ?_⟩
        rw [← lk_upd (o := od) (a1.sub _ _ e)]
        exact ⟨.ref b, hv, b, od, rfl, .inl ⟨kvs, lk_at (a1.sub _ _ e), lc_inner hg hgw hgm ht he (Abs.lk (u := .dK kvs) (o := od) a1.rebase trivial e) (itr_keysK (lk_at e)) (lock (u := .dK kvs) trivial e od hp)⟩⟩
      · exact .inr ⟨.ref b, hv, b, o, rfl, .inl ⟨kvs, a1.sub _ _ e, lc_inner hg hgw hgm ht he a1 (itr_keysK e) hp⟩⟩
    | @dT b kvs _ h1 h2 =>
      rcases h1 with e | ⟨o, e⟩
      · refine .inl ⟨b, .dT kvs, a1.sub _ _ e, trivial, fun od => ?_⟩
        rw [← lk_upd (o := od) (a1.sub _ _ e)]
        exact ⟨.ref b, hv, b, od, rfl, .inr ⟨kvs, lk_at (a1.sub _ _ e), lc_inner hg hgw hgm ht he (Abs.lk (u := .dT kvs) (o := od) a1.rebase trivial e) (itr_keysT (lk_at e)) (lock (u := .dT kvs) trivial e od hp)⟩⟩
      · exact .inr ⟨.ref b, hv, b, o, rfl, .inr ⟨kvs, a1.sub _ _ e, lc_inner hg hgw hgm ht he a1 (itr_keysT e) hp⟩⟩
  | _ => exact hp.elim
theorem df_lcD {elt tg : Expr} {ifs : List Expr} {scope : Scope} {g : TG} {dg : DenG} {dt : DenB} {de : Den} (i : Nat) (own : List (Str × Nat)) (c : Ctx X W k) (hv : PE X (.Name x p) (tVar i)) (hl : LG X.K (own.map (·.2)) g dg)
    (hg : ∀ (s : Shared) (H : Hp) (C : Addr) (cl : List (Str × Addr)) (fp : List Addr), DG (X.blk s H scope (PySem.compEnvC scope cl C X.env) fp) tg g dg) (ht : ∀ (s : Shared) (H : Hp) (C : Addr) (cl : List (Str × Addr)) (fp : List Addr), DTs (X.blk s H scope (PySem.compEnvC scope cl C X.env) fp) (fun _ _ _ _ => False) ifs dt)
    (he : ∀ (s : Shared) (H : Hp) (C : Addr) (cl : List (Str × Addr)) (fp : List Addr), DE (X.blk s H scope (PySem.compEnvC scope cl C X.env) fp) (fun _ _ _ _ => False) elt de) (ok : BlkOk X.N X.env.scope scope own := by exact blkOk_by (by decide +kernel)) (hs : ∀ z, foldedSetIterable (.Name x p) X.env z = pure z := by intro _; rfl) :
    DF X W (.ListComp elt [⟨tg, .Name x p, ifs, 0⟩] scope pos) (dLcD (own.map (·.2)) i dg dt de) :=
  DF.of (pe_lockR (pe_lc c.calm c.nd (pi_keys hv) ok (fun s H C cl fp => (hg s H C cl fp).pg) ht he hs)) (fo_lcD hl.ok hl.w hl.mono canon_ok canon_ok)
@[simp] theorem ap_dLcD {own : List Nat} {i : Nat} {dg : DenG} {dt : DenB} {ρ : Env} : dLcD own i dg dt da ρ = (dVar i ρ).bind fun p ρ1 => match p with
  | .dic _ ks _ => (match lcLoop own dg dt da ks (lockE own ρ1) with
    | some (ys, ρ2) => if ys.length ≤ 1000000 then .ok (.lst ys) (backE own ρ1 ρ2) else .bad
    | none => .bad)
  | _ => .bad := id rfl
end
/-- a measure: rows and columns of a list of lists -/
def muSheet (i : Nat) (ρ : Env) : Nat := match (ρ[i]? : Option Sl) with
  | some (.sh (.lst (.lst r :: rs))) => rs.length + r.length + 2
  | _ => 0
end PL

set_option Elab.async false
set_option linter.all false
set_option maxRecDepth 100000
set_option maxHeartbeats 4000000
namespace PL
open PySem PySem.Spec L2
set_option autoImplicit false
/-! ### comprehensions as maps -/
theorem map_lock_un {ρ : Env} {i : Nat} (h : ρ[i]? = some .un) : (ρ.map Sl.lock).set i .un = ρ.map Sl.lock := by
  have e : (ρ.map Sl.lock)[i]? = some .un := by rw [List.getElem?_map, h]; rfl
  obtain ⟨hi, e2⟩ := List.getElem?_eq_some_iff.mp e
  rw [← e2]
  exact List.set_getElem_self hi
theorem back_lock (s : Sl) : Sl.back s (Sl.lock s) = s := by cases s <;> rfl
theorem clean_un' {s : Sl} (h : s = .un) : clean s = s := by subst h; rfl
theorem back_all {ρ : Env} {i : Nat} (h : ρ[i]? = some .un) : backE [i] ρ (ρ.map Sl.lock) = ρ := by
  unfold backE
  refine List.ext_getElem (by simp) fun j h1 h2 => ?_
  rw [List.getElem_map, List.getElem_range]
  by_cases hj : j = i
  · subst hj
    obtain ⟨hi, e2⟩ := List.getElem?_eq_some_iff.mp h
    simp [h2, e2]
  · have e : [i].contains j = false := by simp [hj]
    rw [e]
    simp [h2, back_lock]
theorem lcE_un {ρ : Env} {i : Nat} (h : ρ[i]? = some .un) : lockE [i] ρ = ρ.map Sl.lock := by
  simp only [lockE]
  exact map_lock_un h
theorem lock_noOw (ρ : Env) : noOw (ρ.map Sl.lock) = true := by
  induction ρ with
  | nil => rfl
  | cons s r ih => rw [List.map_cons, noOw_cons, ih]; cases s <;> rfl
section
variable {α : Type} {i : Nat} {ρ : Env} {di : DenL} {E : Den} {T : DenB}
theorem dLc_ok (g f : α → PV) (l : List α) (hdi : di ρ = .ok (l.map g) ρ) (h0 : ρ[i]? = some .un) (hl : l.length ≤ 1000000) (hE : ∀ c ∈ l, E ((ρ.map Sl.lock).set i (.sh (g c))) = .ok (f c) ((ρ.map Sl.lock).set i (.sh (g c)))) :
    dLc [i] di (gName i) bYes E ρ = .ok (.lst (l.map f)) ρ := by
  have h1 : (ρ.map Sl.lock)[i]? = some .un := by rw [List.getElem?_map, h0]; rfl
  rw [ap_dLc, hdi]
  show (match lcLoop [i] (gName i) bYes E (l.map g) (lockE [i] ρ) with
    | some (ys, ρ2) => if ys.length ≤ 1000000 then Rs.ok (PV.lst ys) (backE [i] ρ ρ2) else .bad
    | none => .bad) = _
  rw [lcE_un h0, lc_pure g f l h1 (lock_noOw ρ) hE]
  simp only [List.length_map, hl, if_true, back_all h0]
theorem dLc_okR {n : Nat} (f : Nat → PV) (hdi : di ρ = .ok (rangeP 0 n) ρ) (h0 : ρ[i]? = some .un) (hl : n ≤ 1000000) (hE : ∀ c, c < n → E ((ρ.map Sl.lock).set i (.sh (.int (c : Nat)))) = .ok (f c) ((ρ.map Sl.lock).set i (.sh (.int (c : Nat))))) :
    dLc [i] di (gName i) bYes E ρ = .ok (.lst ((List.range n).map f)) ρ := by
  have e : rangeP 0 n = (List.range n).map fun i : Nat => PV.int (i : Int) := by simp [rangeP_map]
  rw [e] at hdi
  exact dLc_ok (fun c : Nat => PV.int (c : Int)) f _ hdi h0 (by simpa using hl) fun c hc => hE c (List.mem_range.mp hc)
theorem dLc_okF (g f : α → PV) (t : α → Bool) (l : List α) (hdi : di ρ = .ok (l.map g) ρ) (h0 : ρ[i]? = some .un) (hl : l.length ≤ 1000000) (hT : ∀ c ∈ l, T ((ρ.map Sl.lock).set i (.sh (g c))) = .ok (t c) ((ρ.map Sl.lock).set i (.sh (g c)))) (hE : ∀ c ∈ l, t c = true → E ((ρ.map Sl.lock).set i (.sh (g c))) = .ok (f c) ((ρ.map Sl.lock).set i (.sh (g c)))) :
    dLc [i] di (gName i) T E ρ = .ok (.lst ((l.filter t).map f)) ρ := by
  have h1 : (ρ.map Sl.lock)[i]? = some .un := by rw [List.getElem?_map, h0]; rfl
  have h2 := List.length_filter_le t l
  rw [ap_dLc, hdi]
  show (match lcLoop [i] (gName i) T E (l.map g) (lockE [i] ρ) with
    | some (ys, ρ2) => if ys.length ≤ 1000000 then Rs.ok (PV.lst ys) (backE [i] ρ ρ2) else .bad
    | none => .bad) = _
  rw [lcE_un h0, lc_pureF g f t l h1 (lock_noOw ρ) hT hE]
  simp only [List.length_map, show (l.filter t).length ≤ 1000000 by omega, if_true, back_all h0]
end
theorem atI_map {α : Type} {f : Nat → α} {n i : Nat} (h : i < n) : L2.atI ((List.range n).map f) (i : Int) = some (f i) := by
  rw [atI_nat (by simpa using h)]
  simp
theorem back_all2 {ρ : Env} {i : Nat} {s : Sl} (h : ρ[i]? = some s) (hc : clean s = s) : backE [i] ρ ((ρ.map Sl.lock).set i .un) = ρ := by
  unfold backE
  refine List.ext_getElem (by simp) fun j h1 h2 => ?_
  rw [List.getElem_map, List.getElem_range]
  by_cases hj : j = i
  · subst hj
    obtain ⟨hi, e2⟩ := List.getElem?_eq_some_iff.mp h
    simp [h2, e2, hc]
  · have e : [i].contains j = false := by simp [hj]
    rw [e]
    simp [h2, back_lock, Ne.symm hj]
theorem isOw_lock (s : Sl) : (Sl.lock s).isOw = false := by cases s <;> rfl
theorem noOw_un {ρ : Env} (i : Nat) (h : noOw ρ = true) : noOw (ρ.set i .un) = true := by
  induction ρ generalizing i with
  | nil => simpa using h
  | cons s r ih =>
    rw [noOw_cons, Bool.and_eq_true] at h
    cases i with
    | zero => simp [h.2]
    | succ i => rw [List.set_cons_succ, noOw_cons, h.1, ih i h.2]; rfl
section
variable {α : Type} {i : Nat} {ρ : Env} {di : DenL} {E : Den} {T : DenB}
/-- the name has had a value before -/
theorem dLc_ok2 (g f : α → PV) (l : List α) {s : Sl} (hdi : di ρ = .ok (l.map g) ρ) (h0 : ρ[i]? = some s) (hc : clean s = s) (hl : l.length ≤ 1000000) (hE : ∀ c ∈ l, E ((ρ.map Sl.lock).set i (.sh (g c))) = .ok (f c) ((ρ.map Sl.lock).set i (.sh (g c)))) :
    dLc [i] di (gName i) bYes E ρ = .ok (.lst (l.map f)) ρ := by
  have hi : i < ρ.length := (List.getElem?_eq_some_iff.mp h0).1
  have h1 : ((ρ.map Sl.lock).set i .un)[i]? = some .un := List.getElem?_set_self (by simpa using hi)
  rw [ap_dLc, hdi]
  show (match lcLoop [i] (gName i) bYes E (l.map g) (lockE [i] ρ) with
    | some (ys, ρ2) => if ys.length ≤ 1000000 then Rs.ok (PV.lst ys) (backE [i] ρ ρ2) else .bad
    | none => .bad) = _
  rw [show lockE [i] ρ = (ρ.map Sl.lock).set i .un from rfl, lc_pure g f l h1 (noOw_un i (lock_noOw ρ)) (fun c hc => by rw [List.set_set]; exact hE c hc)]
  simp only [List.length_map, hl, if_true, back_all2 h0 hc]
end
end PL

set_option Elab.async false
set_option linter.all false
set_option maxRecDepth 100000
set_option maxHeartbeats 4000000
namespace PL
open PySem PySem.Spec L2
open PyProof.Rows hiding St
open PySem.W (alike alikeAll dataLt AllAlike Sortable dataLe EachIs minD maxD AlikeAll)
set_option autoImplicit false

/-! ### the order of data at any depth -/
def isNonD : PyData → Bool
  | .none => true
  | _ => false
def ordOk (p q : PV) : Bool := SeqAt.shaped p.toD && SeqAt.shaped q.toD && alike p.toD q.toD && !isNonD p.toD
def pvLt (p q : PV) : Bool := dataLt p.toD q.toD
def gLtD (p q : PV) : Option PV := if ordOk p q then some (.bl (pvLt p q)) else none
def gGtD (p q : PV) : Option PV := if ordOk p q then some (.bl (pvLt q p)) else none
theorem shaped_depth {d : PyData} (h : SeqAt.shaped d = true) : d.depth ≤ 64 := by
  have h2 := (Bool.and_eq_true _ _).mp h
  have := of_decide_eq_true h2.2
  omega
section
variable {X : Cx} {W : WX} {k : Nat} {K : PySem.W.Frag}
def rLtD (K : PySem.W.Frag) : R2 := fun x y H Q => ∃ d e, Dp K H x d ∧ Dp K H y e ∧ alike d e = true ∧ d ≠ .none ∧ min d.depth e.depth ≤ 64 ∧ Q (.bl (dataLt d e)) H
def rGtD (K : PySem.W.Frag) : R2 := fun x y H Q => ∃ d e, Dp K H x d ∧ Dp K H y e ∧ alike d e = true ∧ d ≠ .none ∧ min d.depth e.depth ≤ 64 ∧ Q (.bl (dataLt e d)) H
theorem op_ltD (hu : X.A.units + 64 < cLine) : OpR X (compareOp .Lt) (rLtD X.K) := by
  intro pins s σ H x y v u Q I rx ry h
  obtain ⟨d, e, hd, he, al, hn, hm, q⟩ := h
  obtain ⟨as, r1⟩ := Dp.reads I d x v hd rx
  obtain ⟨bs, r2⟩ := Dp.reads I e y u he ry
  exact PySem.W.lt_data r1 r2 al hn (by omega) ⟨.bl _, H, I, rfl, q⟩
theorem op_gtD (hu : X.A.units + 64 < cLine) : OpR X (compareOp .Gt) (rGtD X.K) := by
  intro pins s σ H x y v u Q I rx ry h
  obtain ⟨d, e, hd, he, al, hn, hm, q⟩ := h
  obtain ⟨as, r1⟩ := Dp.reads I d x v hd rx
  obtain ⟨bs, r2⟩ := Dp.reads I e y u he ry
  exact PySem.W.gt_data r1 r2 al hn (by omega) ⟨.bl _, H, I, rfl, q⟩
theorem ordOk_split {p q : PV} (h : ordOk p q = true) : SeqAt.shaped p.toD = true ∧ SeqAt.shaped q.toD = true ∧ alike p.toD q.toD = true ∧ p.toD ≠ .none ∧ min p.toD.depth q.toD.depth ≤ 64 := by
  unfold ordOk at h
  simp only [Bool.and_eq_true] at h
  obtain ⟨⟨⟨h1, h2⟩, h3⟩, h4⟩ := h
  refine ⟨h1, h2, h3, fun e => (by rw [e] at h4; cases h4), ?_⟩
  have := shaped_depth h1
  omega
theorem v2_ltD : V2 K (rLtD K) gLtD := by
  intro S H x y p q z Q s rx ry e k
  unfold gLtD at e
  split at e
  · rename_i hz
    cases e
    obtain ⟨h1, h2, h3, h4, h5⟩ := ordOk_split hz
    exact ⟨_, _, rx.dp s _ _ (SeqAt.canLay_of_shaped h1), ry.dp s _ _ (SeqAt.canLay_of_shaped h2), h3, h4, h5, k _ S H (Step.refl s) (.bl _)⟩
  · cases e
theorem v2_gtD : V2 K (rGtD K) gGtD := by
  intro S H x y p q z Q s rx ry e k
  unfold gGtD at e
  split at e
  · rename_i hz
    cases e
    obtain ⟨h1, h2, h3, h4, h5⟩ := ordOk_split hz
    exact ⟨_, _, rx.dp s _ _ (SeqAt.canLay_of_shaped h1), ry.dp s _ _ (SeqAt.canLay_of_shaped h2), h3, h4, h5, k _ S H (Step.refl s) (.bl _)⟩
  · cases e
theorem cr_ltD (c : Ctx X W k) : CmpR X .Lt (rLtD X.K) gLtD := ⟨op_ltD c.hu, v2_ltD, by
  intro p q z e
  unfold gLtD at e
  split at e
  · cases e; rfl
  · cases e⟩
theorem cr_gtD (c : Ctx X W k) : CmpR X .Gt (rGtD X.K) gGtD := ⟨op_gtD c.hu, v2_gtD, by
  intro p q z e
  unfold gGtD at e
  split at e
  · cases e; rfl
  · cases e⟩

/-! ### sorted(a list of alike data) -/
def pvLe (p q : PV) : Bool := dataLe false PV.toD p q
def isTup1 : PyData → Bool
  | .tuple (_ :: _) => true
  | _ => false
def isOth : PyData → Bool
  | .tuple _ => false
  | .none => false
  | _ => true
def sortOk (ps : List PV) : Bool := ps.all (fun p => SeqAt.shaped p.toD && decide (p.toD.depth ≤ 32)) && ps.all (fun p => ps.all fun q => alike p.toD q.toD) && (ps.all (fun p => isTup1 p.toD) || ps.all fun p => isOth p.toD) && decide (ps.length ≤ sizeLine)
def gSortD : List PV → Option PV
  | [.lst ps] => if sortOk ps then some (.lst (ps.mergeSort pvLe)) else none
  | _ => none
theorem sortOk_split {ps : List PV} (h : sortOk ps = true) : (∀ p ∈ ps, SeqAt.shaped p.toD = true ∧ p.toD.depth ≤ 32) ∧ AllAlike (ps.map PV.toD) ∧ Sortable (ps.map PV.toD) ∧ ps.length ≤ sizeLine := by
  unfold sortOk at h
  simp only [Bool.and_eq_true, Bool.or_eq_true, List.all_eq_true, decide_eq_true_eq] at h
  obtain ⟨⟨⟨h1, h2⟩, h3⟩, h4⟩ := h
  refine ⟨h1, ?_, ?_, h4⟩
  · intro d hd d' hd'
    obtain ⟨p, hp, rfl⟩ := List.mem_map.mp hd
    obtain ⟨q, hq, rfl⟩ := List.mem_map.mp hd'
    exact h2 p hp q hq
  · rcases h3 with h3 | h3
    · refine .inl fun d hd => ?_
      obtain ⟨p, hp, rfl⟩ := List.mem_map.mp hd
      have := h3 p hp
      unfold isTup1 at this
      split at this
      · rename_i x xs e; exact ⟨_, _, e⟩
      · cases this
    · refine .inr fun d hd => ?_
      obtain ⟨p, hp, rfl⟩ := List.mem_map.mp hd
      have := h3 p hp
      unfold isOth at this
      constructor
      · intro e; rw [e] at this; cases this
      · intro xs e; rw [e] at this; cases this
abbrev ordZ (z w : V × PV) : Bool := dataLe false (fun z : V × PV => z.2.toD) z w
def rSortD (K : PySem.W.Frag) : List V → Hp → VK → Prop := fun xs H Q => ∃ (a : Addr) (zs : List (V × PV)), xs = [.ref a] ∧ SqL K H a (zs.map (·.1)) ∧ (∀ z ∈ zs, Dp K H z.1 z.2.toD) ∧ AllAlike (zs.map fun z => z.2.toD) ∧ Sortable (zs.map fun z => z.2.toD) ∧ (∀ z ∈ zs, z.2.toD.depth ≤ 32) ∧ zs.length ≤ sizeLine ∧
  ∀ b, H b = none → Q (.ref b) (upd H b (.lst ((zs.mergeSort ordZ).map (·.1))))
theorem each_of_vals : ∀ {zs : List (V × PV)} {us : List Value}, Vals (zs.map (·.1)) us → EachIs (fun u z => RelV z.1 u) us zs
  | [], _, h => by cases h; exact .nil
  | z :: zs, _, h => by
    cases h with
    | cons h1 h2 => exact .cons h1 (each_of_vals h2)
theorem vals_of_each : ∀ {zs : List (V × PV)} {us : List Value}, EachIs (fun u z => RelV z.1 u) us zs → Vals (zs.map (·.1)) us
  | [], _, h => by cases h; exact .nil
  | z :: zs, _, h => by
    cases h with
    | cons h1 h2 => exact .cons h1 (vals_of_each h2)
theorem each_imp {R R' : Value → V × PV → Prop} : ∀ {us : List Value} {zs : List (V × PV)}, EachIs R us zs → (∀ u z, z ∈ zs → R u z → R' u z) → EachIs R' us zs
  | _, _, .nil, _ => .nil
  | _, _, .cons h t, k => .cons (k _ _ (by simp) h) (each_imp t fun u z m r => k u z (List.mem_cons_of_mem _ m) r)
theorem cr_sortD (hu : X.A.units + 64 < cLine) : CallR X (.builtin "sorted") (rSortD X.K) := by
  intro pins s σ H xs us Q I r h
  obtain ⟨a, zs, rfl, hs, hd, hal, hk, hdep, hlen, q⟩ := h
  obtain ⟨its, rv, hl, hz⟩ := I.list hs
  rw [Vals.ref1 r]
  have e := each_of_vals rv
  refine PySem.W.sorted_data (R := fun u z => RelV z.1 u) (bs := zs) (enc := fun z : V × PV => z.2.toD) hl.isList e (each_imp e fun u z m r => Dp.reads I _ _ _ (hd z m) r) hal hk hlen (fun b hb => by have := hdep b hb; omega) fun out ho h1 => ?_
  obtain ⟨ep, he'⟩ := PyProof.Rows.sortedAll_at s.heap its out.toArray
  have rv2 := vals_of_each h1
  have hlen2 : ((zs.mergeSort ordZ).map (·.1)).length ≤ sizeLine := by
    rw [List.length_map, List.length_mergeSort]; exact hlen
  exact ⟨.ref _, upd H (s.heap.objs.size + 1) (.lst ((zs.mergeSort ordZ).map (·.1))), I.laid (t' := s.toks) (fun _ _ => PyProof.Rows.sortedAll_old) (Nat.le_succ _) ⟨hlen2, out, ep, rv2, he'⟩, rfl, q _ (I.hok.fresh (Nat.le_succ _))⟩
theorem repL_zip {S : Hp} : ∀ {ps : List PV} {vs : List V}, RepL K S ps vs → ∃ zs : List (V × PV), vs = zs.map (·.1) ∧ ps = zs.map (·.2) ∧ ∀ z ∈ zs, Rep K S z.2 z.1
  | [], _, h => by cases h; exact ⟨[], rfl, rfl, fun z hz => nomatch hz⟩
  | p :: ps, _, h => by
    cases h with
    | cons h1 h2 =>
      obtain ⟨zs, e1, e2, e3⟩ := repL_zip h2
      refine ⟨(_, p) :: zs, by rw [e1]; rfl, by rw [e2]; rfl, fun z hz => ?_⟩
      rcases List.mem_cons.mp hz with e | e
      · subst e; exact h1
      · exact e3 z e
theorem repL_unzip {S : Hp} : ∀ {zs : List (V × PV)}, (∀ z ∈ zs, Rep K S z.2 z.1) → RepL K S (zs.map (·.2)) (zs.map (·.1))
  | [], _ => .nil
  | z :: zs, h => .cons (h z (by simp)) (repL_unzip fun w hw => h w (List.mem_cons_of_mem _ hw))
theorem vn_sortD : VNF K (rSortD K) gSortD := by
  intro S H xs ps z Q s rx e k
  unfold gSortD at e
  split at e
  · rename_i ps
    split at e
    · rename_i hz
      cases e
      obtain ⟨h1, h2, h3, h4⟩ := sortOk_split hz
      cases rx with
      | cons r1 r2 =>
        cases r2
        cases r1 with
        | lst g1 g2 =>
          obtain ⟨zs, e1, e2, e3⟩ := repL_zip g2
          subst e2 e1
          simp only [List.map_map] at h2 h3
          refine ⟨_, zs, rfl, .inl (.inl (s _ _ g1)), fun z hz => (e3 z hz).dp s _ _ (SeqAt.canLay_of_shaped (h1 z.2 (List.mem_map.mpr ⟨z, hz, rfl⟩)).1), h2, h3, fun z hz => (h1 z.2 (List.mem_map.mpr ⟨z, hz, rfl⟩)).2, by simpa using h4, fun b n => ?_⟩
          have em : (zs.map (·.2)).mergeSort pvLe = (zs.mergeSort ordZ).map (·.2) := (List.map_mergeSort (r := ordZ) (s := pvLe) (f := fun z : V × PV => z.2) (l := zs) fun a _ b _ => rfl).symm
          refine k b _ n ?_
          rw [em]
          exact repL_unzip fun z hz => e3 z ((List.mergeSort_perm zs ordZ).mem_iff.mp hz)
    · cases e
  · cases e

/-! ### min and max of a list of alike data -/
mutual
def pure? : PV → Bool
  | .non => true
  | .bl _ => true
  | .int _ => true
  | .str _ => true
  | .lst ps => pures? ps
  | .tup ps => pures? ps
  | _ => false
def pures? : List PV → Bool
  | [] => true
  | p :: ps => pure? p && pures? ps
end
mutual
theorem toD_inj : ∀ (p q : PV), pure? p = true → pure? q = true → p.toD = q.toD → p = q
  | .non, q, _, hq, e => by cases q <;> first | rfl | (simp only [PV.toD] at e; cases e) | (simp [pure?] at hq)
  | .bl b, q, _, hq, e => by cases q <;> first | (simp only [PV.toD] at e; cases e; done) | (simp only [PV.toD, PyData.bool.injEq] at e; rw [e]; done) | (simp [pure?] at hq; done)
  | .int b, q, _, hq, e => by cases q <;> first | (simp only [PV.toD] at e; cases e; done) | (simp only [PV.toD, PyData.int.injEq] at e; rw [e]; done) | (simp [pure?] at hq; done)
  | .str b, q, _, hq, e => by cases q <;> first | (simp only [PV.toD] at e; cases e; done) | (simp only [PV.toD, PyData.str.injEq] at e; rw [e]; done) | (simp [pure?] at hq; done)
  | .lst ps, q, hp, hq, e => by
    cases q with
    | lst qs =>
      simp only [PV.toD, PyData.list.injEq] at e
      rw [toDs_inj ps qs (by simpa [pure?] using hp) (by simpa [pure?] using hq) e]
    | _ => first | (simp only [PV.toD] at e; cases e; done) | (simp [pure?] at hq; done)
  | .tup ps, q, hp, hq, e => by
    cases q with
    | tup qs =>
      simp only [PV.toD, PyData.tuple.injEq] at e
      rw [toDs_inj ps qs (by simpa [pure?] using hp) (by simpa [pure?] using hq) e]
    | _ => first | (simp only [PV.toD] at e; cases e; done) | (simp [pure?] at hq; done)
  | .ktup _, _, hp, _, _ => by simp [pure?] at hp
  | .dic _ _ _, _, hp, _, _ => by simp [pure?] at hp
  | .fn _, _, hp, _, _ => by simp [pure?] at hp
  | .klst _, _, hp, _, _ => by simp [pure?] at hp
theorem toDs_inj : ∀ (ps qs : List PV), pures? ps = true → pures? qs = true → toDs ps = toDs qs → ps = qs
  | [], qs, _, _, e => by cases qs with
    | nil => rfl
    | cons => simp [toDs] at e
  | p :: ps, qs, hp, hq, e => by
    cases qs with
    | nil => simp [toDs] at e
    | cons q qs =>
      simp only [toDs, List.cons.injEq] at e
      simp only [pures?, Bool.and_eq_true] at hp hq
      rw [toD_inj p q hp.1 hq.1 e.1, toDs_inj ps qs hp.2 hq.2 e.2]
end
theorem toDs_map : ∀ ps : List PV, toDs ps = ps.map PV.toD
  | [] => rfl
  | p :: ps => by simp [toDs, toDs_map ps]
def minP (p : PV) (ps : List PV) : PV := ps.foldl (fun a q => if pvLt q a then q else a) p
def maxP (p : PV) (ps : List PV) : PV := ps.foldl (fun a q => if pvLt a q then q else a) p
theorem minP_toD : ∀ (ps : List PV) (p : PV), (minP p ps).toD = minD p.toD (ps.map PV.toD)
  | [], p => rfl
  | q :: ps, p => by
    have e : minP p (q :: ps) = minP (if pvLt q p then q else p) ps := rfl
    rw [e, minP_toD ps]
    show minD _ _ = minD (if dataLt q.toD p.toD then q.toD else p.toD) (ps.map PV.toD)
    unfold pvLt
    split <;> rfl
theorem maxP_toD : ∀ (ps : List PV) (p : PV), (maxP p ps).toD = maxD p.toD (ps.map PV.toD)
  | [], p => rfl
  | q :: ps, p => by
    have e : maxP p (q :: ps) = maxP (if pvLt p q then q else p) ps := rfl
    rw [e, maxP_toD ps]
    show maxD _ _ = maxD (if dataLt p.toD q.toD then q.toD else p.toD) (ps.map PV.toD)
    unfold pvLt
    split <;> rfl
theorem memIf {α : Type} {b : Bool} {x p q : α} {l : List α} (_ : True) (h : x ∈ (if b = true then q else p) :: l) : x ∈ p :: q :: l := by
  rcases List.mem_cons.mp h with e | e
  · cases b
    · rw [e]; exact List.mem_cons_self
    · rw [e]; exact List.mem_cons_of_mem _ List.mem_cons_self
  · exact List.mem_cons_of_mem _ (List.mem_cons_of_mem _ e)
theorem minP_mem : ∀ (ps : List PV) (p : PV), minP p ps ∈ p :: ps
  | [], p => by simp [minP]
  | q :: ps, p => by
    have e : minP p (q :: ps) = minP (if pvLt q p then q else p) ps := rfl
    rw [e]
    have := minP_mem ps (if pvLt q p then q else p)
    exact memIf trivial this
theorem maxP_mem : ∀ (ps : List PV) (p : PV), maxP p ps ∈ p :: ps
  | [], p => by simp [maxP]
  | q :: ps, p => by
    have e : maxP p (q :: ps) = maxP (if pvLt p q then q else p) ps := rfl
    rw [e]
    have := maxP_mem ps (if pvLt p q then q else p)
    exact memIf trivial this
def bestOk (ps : List PV) : Bool := ps.all (fun p => SeqAt.shaped p.toD && decide (p.toD.depth ≤ 32) && pure? p && !isNonD p.toD) && ps.all fun p => ps.all fun q => alike p.toD q.toD
def gMinD : List PV → Option PV
  | [.lst (p :: ps)] => if bestOk (p :: ps) then some (minP p ps) else none
  | _ => none
def gMaxD : List PV → Option PV
  | [.lst (p :: ps)] => if bestOk (p :: ps) then some (maxP p ps) else none
  | _ => none
theorem bestOk_split {ps : List PV} (h : bestOk ps = true) : (∀ p ∈ ps, SeqAt.shaped p.toD = true ∧ p.toD.depth ≤ 32 ∧ pure? p = true ∧ p.toD ≠ .none) ∧ ∀ p ∈ ps, ∀ q ∈ ps, alike p.toD q.toD = true := by
  unfold bestOk at h
  simp only [Bool.and_eq_true, List.all_eq_true, decide_eq_true_eq] at h
  obtain ⟨h1, h2⟩ := h
  refine ⟨fun p hp => ?_, h2⟩
  obtain ⟨⟨⟨g1, g2⟩, g3⟩, g4⟩ := h1 p hp
  exact ⟨g1, g2, g3, fun e => by rw [e] at g4; cases g4⟩
def rBest (f : PyData → List PyData → PyData) (K : PySem.W.Frag) : List V → Hp → VK → Prop := fun xs H Q => ∃ (a : Addr) (z : V × PV) (zs : List (V × PV)), xs = [.ref a] ∧ SqL K H a ((z :: zs).map (·.1)) ∧ (∀ w ∈ z :: zs, Dp K H w.1 w.2.toD) ∧ (∀ w ∈ z :: zs, ∀ w' ∈ z :: zs, alike w.2.toD w'.2.toD = true) ∧ (∀ w ∈ z :: zs, w.2.toD ≠ .none ∧ w.2.toD.depth ≤ 32) ∧
  ∀ w ∈ z :: zs, w.2.toD = f z.2.toD (zs.map fun w => w.2.toD) → Q w.1 H
theorem depths_le {n : Nat} : ∀ {ds : List PyData}, (∀ d ∈ ds, d.depth ≤ n) → PyData.depthAll ds ≤ n
  | [], _ => by simp [PyData.depthAll]
  | d :: ds, h => by
    have h1 := h d (by simp)
    have h2 := depths_le fun e he => h e (List.mem_cons_of_mem _ he)
    simp only [PyData.depthAll]
    omega
theorem dpAll_zip {H : Hp} : ∀ {zs : List (V × PV)}, (∀ z ∈ zs, Dp K H z.1 z.2.toD) → DpAll K H (zs.map (·.1)) (zs.map fun z => z.2.toD)
  | [], _ => .nil
  | z :: zs, h => .cons (h z (by simp)) (dpAll_zip fun w hw => h w (List.mem_cons_of_mem _ hw))
theorem vals_at : ∀ {zs : List (V × PV)} {us : List Value}, Vals (zs.map (·.1)) us → ∀ (i : Nat) (u : Value), us[i]? = some u → ∃ w ∈ zs, RelV w.1 u
  | [], _, h, i, u, e => by cases h; simp at e
  | z :: zs, _, h, i, u, e => by
    cases h with
    | cons h1 h2 =>
      cases i with
      | zero =>
        simp at e
        subst e
        exact ⟨z, by simp, h1⟩
      | succ i =>
        obtain ⟨w, m, r⟩ := vals_at h2 i u (by simpa using e)
        exact ⟨w, List.mem_cons_of_mem _ m, r⟩
theorem minD_alike (f : PyData → PyData → Bool) : ∀ (ds : List PyData) (d : PyData), ds.foldl (fun a y => if f y a then y else a) d ∈ d :: ds
  | [], d => by simp
  | e :: ds, d => by
    have := minD_alike f ds (if f e d then e else d)
    rw [List.foldl_cons]
    exact memIf trivial this
theorem cr_min (hc : X.calm = true) (hu : X.A.units + 64 < cLine) : CallR X (.builtin "min") (rBest minD X.K) := by
  intro pins s σ H xs us Q I r h
  obtain ⟨a, z, zs, rfl, hs, hd, hal, hn, q⟩ := h
  obtain ⟨its, rv, hl, hz⟩ := I.list hs
  rw [Vals.ref1 r]
  have ha : AlikeAll (z.2.toD :: zs.map fun w => w.2.toD) := by
    have e : (z.2.toD :: zs.map fun w => w.2.toD) = (z :: zs).map fun w => w.2.toD := rfl
    rw [e]
    refine ⟨fun x hx y hy => ?_, fun x hx => ?_⟩
    · obtain ⟨w, hw, rfl⟩ := List.mem_map.mp hx
      obtain ⟨w', hw', rfl⟩ := List.mem_map.mp hy
      exact hal w hw w' hw'
    · obtain ⟨w, hw, rfl⟩ := List.mem_map.mp hx
      exact (hn w hw).1
  have hdp : PyData.depthAll (z.2.toD :: zs.map fun w => w.2.toD) ≤ 32 := depths_le fun d hd => by
    have e : (z.2.toD :: zs.map fun w => w.2.toD) = (z :: zs).map fun w => w.2.toD := rfl
    rw [e] at hd
    obtain ⟨w, hw, rfl⟩ := List.mem_map.mp hd
    exact (hn w hw).2
  obtain ⟨as, hr⟩ := Dp.readsAll I _ _ its (dpAll_zip (zs := z :: zs) hd) rv
  refine PySem.W.min_list_data (I.ok.hd hc) hl.isList (by simpa using hr) ha (by omega) fun i v h' tk bs hv rd hk => ?_
  obtain ⟨w, hw, rw_⟩ := vals_at (zs := z :: zs) rv i v (by simpa using hv)
  obtain ⟨cs, r3⟩ := Dp.reads I _ _ _ (hd w hw) rw_
  have hm : minD z.2.toD (zs.map fun w => w.2.toD) ∈ z.2.toD :: zs.map fun w => w.2.toD := minD_alike dataLt _ _
  have e2 : w.2.toD = minD z.2.toD (zs.map fun w => w.2.toD) := PySem.W.alike_unique _ _ _ _ _ (ha.1 _ (show w.2.toD ∈ (z :: zs).map fun w => w.2.toD from List.mem_map.mpr ⟨w, hw, rfl⟩) _ hm) (PySem.W.reads_keeps hk r3) rd
  exact ⟨w.1, H, I.kept hk, rw_, q w hw e2⟩
theorem cr_max (hc : X.calm = true) (hu : X.A.units + 64 < cLine) : CallR X (.builtin "max") (rBest maxD X.K) := by
  intro pins s σ H xs us Q I r h
  obtain ⟨a, z, zs, rfl, hs, hd, hal, hn, q⟩ := h
  obtain ⟨its, rv, hl, hz⟩ := I.list hs
  rw [Vals.ref1 r]
  have ha : AlikeAll (z.2.toD :: zs.map fun w => w.2.toD) := by
    have e : (z.2.toD :: zs.map fun w => w.2.toD) = (z :: zs).map fun w => w.2.toD := rfl
    rw [e]
    refine ⟨fun x hx y hy => ?_, fun x hx => ?_⟩
    · obtain ⟨w, hw, rfl⟩ := List.mem_map.mp hx
      obtain ⟨w', hw', rfl⟩ := List.mem_map.mp hy
      exact hal w hw w' hw'
    · obtain ⟨w, hw, rfl⟩ := List.mem_map.mp hx
      exact (hn w hw).1
  have hdp : PyData.depthAll (z.2.toD :: zs.map fun w => w.2.toD) ≤ 32 := depths_le fun d hd => by
    have e : (z.2.toD :: zs.map fun w => w.2.toD) = (z :: zs).map fun w => w.2.toD := rfl
    rw [e] at hd
    obtain ⟨w, hw, rfl⟩ := List.mem_map.mp hd
    exact (hn w hw).2
  obtain ⟨as, hr⟩ := Dp.readsAll I _ _ its (dpAll_zip (zs := z :: zs) hd) rv
  refine PySem.W.max_list_data (I.ok.hd hc) hl.isList (by simpa using hr) ha (by omega) fun i v h' tk bs hv rd hk => ?_
  obtain ⟨w, hw, rw_⟩ := vals_at (zs := z :: zs) rv i v (by simpa using hv)
  obtain ⟨cs, r3⟩ := Dp.reads I _ _ _ (hd w hw) rw_
  have hm : maxD z.2.toD (zs.map fun w => w.2.toD) ∈ z.2.toD :: zs.map fun w => w.2.toD := minD_alike (fun y a => dataLt a y) _ _
  have e2 : w.2.toD = maxD z.2.toD (zs.map fun w => w.2.toD) := PySem.W.alike_unique _ _ _ _ _ (ha.1 _ (show w.2.toD ∈ (z :: zs).map fun w => w.2.toD from List.mem_map.mpr ⟨w, hw, rfl⟩) _ hm) (PySem.W.reads_keeps hk r3) rd
  exact ⟨w.1, H, I.kept hk, rw_, q w hw e2⟩
theorem zip_cons {S : Hp} {p : PV} {ps : List PV} {vs : List V} (h : RepL K S (p :: ps) vs) : ∃ (z : V × PV) (zs : List (V × PV)), vs = (z :: zs).map (·.1) ∧ z.2 = p ∧ ps = zs.map (·.2) ∧ ∀ w ∈ z :: zs, Rep K S w.2 w.1 := by
  obtain ⟨zs, e1, e2, e3⟩ := repL_zip h
  cases zs with
  | nil => cases e2
  | cons z zs =>
    simp only [List.map_cons, List.cons.injEq] at e2
    exact ⟨z, zs, e1, e2.1.symm, e2.2, e3⟩
theorem best_ok {S H : Hp} {p z : PV} {ps : List PV} {x : V} {f : PyData → List PyData → PyData} {Q : VK} (s : Same S H) (r1 : Rep K S (.lst (p :: ps)) x) (hz : bestOk (p :: ps) = true) (hm : z ∈ p :: ps) (hf : z.toD = f p.toD (ps.map PV.toD))
    (k : ∀ v S' H', Step S H S' H' → Rep K S' z v → Q v H') : rBest f K [x] H Q := by
  obtain ⟨h1, h2⟩ := bestOk_split hz
  cases r1 with
  | lst g1 g2 =>
    obtain ⟨w, ws, e1, e2, e3, e4⟩ := zip_cons g2
    subst e1 e2 e3
    have hmem : ∀ u ∈ w :: ws, u.2 ∈ w.2 :: ws.map (·.2) := fun u hu => by
      show u.2 ∈ (w :: ws).map (·.2)
      exact List.mem_map.mpr ⟨u, hu, rfl⟩
    refine ⟨_, w, ws, rfl, .inl (.inl (s _ _ g1)), fun u hu => (e4 u hu).dp s _ _ (SeqAt.canLay_of_shaped (h1 u.2 (hmem u hu)).1), fun u hu u' hu' => h2 _ (hmem u hu) _ (hmem u' hu'), fun u hu => ⟨(h1 u.2 (hmem u hu)).2.2.2, (h1 u.2 (hmem u hu)).2.1⟩, fun u hu eu => ?_⟩
    have e5 : u.2 = z := toD_inj _ _ (h1 u.2 (hmem u hu)).2.2.1 (h1 z hm).2.2.1 (by rw [eu, hf, List.map_map]; rfl)
    exact k _ S H (Step.refl s) (e5 ▸ e4 u hu)
theorem vn_minD : VN K (rBest minD K) gMinD := by
  intro S H xs ps z Q s rx e k
  unfold gMinD at e
  split at e
  · rename_i p ps
    split at e
    · rename_i hz
      cases e
      cases rx with
      | cons r1 r2 =>
        cases r2
        exact best_ok s r1 hz (minP_mem ps p) (minP_toD ps p) k
    · cases e
  · cases e
theorem vn_maxD : VN K (rBest maxD K) gMaxD := by
  intro S H xs ps z Q s rx e k
  unfold gMaxD at e
  split at e
  · rename_i p ps
    split at e
    · rename_i hz
      cases e
      cases rx with
      | cons r1 r2 =>
        cases r2
        exact best_ok s r1 hz (maxP_mem ps p) (maxP_toD ps p) k
    · cases e
  · cases e
variable {e : Expr} {es : List Expr} {dl : DenL} {p pos : Pos}
theorem df_sortD (c : Ctx X W k) (B : Bi X.mg) (ha : DA X W (e :: es) dl) (hg : Gl X "sorted" := by rfl) (he : starEach (e :: es) X.env = (false, eval e X.env) :: starEach es X.env := by rfl) (hpl : (backTo pos (starEach es X.env)).any (·.1) = false := by rfl) :
    DF X W (.Call (.Name "sorted" p) (e :: es) [] pos) (dN gSortD dl) := DF.of (pe_callB (cr_sortD c.hu) hg B.sorted (by decide +kernel) ha (by decide) (by decide) he hpl) (fo_n canon_ok vn_sortD)
theorem de_minD (c : Ctx X W k) (B : Bi X.mg) (ha : DA X W (e :: es) dl) (hg : Gl X "min" := by rfl) (he : starEach (e :: es) X.env = (false, eval e X.env) :: starEach es X.env := by rfl) (hpl : (backTo pos (starEach es X.env)).any (·.1) = false := by rfl) :
    DE X W (.Call (.Name "min" p) (e :: es) [] pos) (dN gMinD dl) := de_b (cr_min c.calm c.hu) vn_minD B.min (by decide +kernel) ha hg (by decide) (by decide) he hpl
theorem de_maxD (c : Ctx X W k) (B : Bi X.mg) (ha : DA X W (e :: es) dl) (hg : Gl X "max" := by rfl) (he : starEach (e :: es) X.env = (false, eval e X.env) :: starEach es X.env := by rfl) (hpl : (backTo pos (starEach es X.env)).any (·.1) = false := by rfl) :
    DE X W (.Call (.Name "max" p) (e :: es) [] pos) (dN gMaxD dl) := de_b (cr_max c.calm c.hu) vn_maxD B.max (by decide +kernel) ha hg (by decide) (by decide) he hpl
end
end PL

set_option Elab.async false
set_option linter.all false
set_option maxRecDepth 100000
set_option maxHeartbeats 4000000
namespace PL
open PySem PySem.Spec L2
set_option autoImplicit false
/-! ### a comprehension over a dict that its slot still owns afterwards -/
section
variable {K : PySem.W.Frag} {mg : Str → Option Value} {W : WX}
def ItR2 (K : PySem.W.Frag) (S H : Hp) (M : Addr → Prop) (ps : List PV) (J : It) : Prop :=
  ∀ (i : Nat) (S1 H1 : Hp), Same S S1 → Same S1 H1 → (∀ b o, H b = some o → ¬ M b → H1 b = some o) → (ps.length ≤ i → J.stop i H1) ∧ ∀ p, ps[i]? = some p → J.go i H1 ∧ ∀ x H2, J.yld i H1 x H2 → ∃ S2, Step S1 H1 S2 H2 ∧ Rep K S2 p x
/-- a comprehension's walk: in its block nothing is raised -/
theorem lc_inner2 {g : TG} {dg : DenG} {tt : TT} {dt : DenB} {te : TE} {de : Den} {own : List Nat} {H₀ S₀ : Hp} {M : Addr → Prop} {S1 H1 : Hp} {σ : St} {ρ1 : Env} {Q : VK} {xs : List PV} {J : It} (hg : GOk K g dg) (hgw : TgW own g) (hgm : GMono g) (ht : TOk K mg (fun _ _ _ _ => False) tt dt) (he : EOk K mg (fun _ _ _ _ => False) te de) (a1 : Abs K H₀ S₀ M S1 σ H1 ρ1) (rj : ItR2 K S1 H1 (Lent σ ρ1) xs J)
    (hp : match lcLoop own dg dt de xs (lockE own ρ1) with
      | some (ys, ρ2) => if ys.length ≤ 1000000 then (∀ v S' H', Abs K H₀ S₀ M S' σ H' (backE own ρ1 ρ2) → Fr K H₀ S' H' σ (backE own ρ1 ρ2) (.lst ys) v → (∀ c o, H1 c = some o → ¬ Lent σ ρ1 c → (∀ us, o ≠ .tup us) → S1 c = none → S' c = none ∧ H' c = some o) → Q v H') else False
      | none => False) : ∀ D, H1 D = none → ∃ W : Nat → Nat → Hp → Prop, (∃ m, W 0 m (upd H1 D (.lst []))) ∧ ∀ i m H, W i m H →
  (J.stop i H ∧ Q (.ref D) H) ∨ (J.go i H ∧ ∃ Nx : Hp → Prop, (∀ H', Nx H' → ∃ m', m' < m ∧ W (i + 1) m' H') ∧ ∀ x H', J.yld i H x H' → g x (wipe σ own) H' fun σ2 H2 => wipe σ2 own = wipe σ own ∧ tt σ2 H2 fun b H3 =>
    if b = true then te σ2 H3 fun y H4 => ∃ acc, H4 D = some (.lst acc) ∧ acc.length < sizeLine ∧ Nx (upd H4 D (.lst (acc ++ [y]))) else Nx H3) := by
  intro D hD
  cases eL : lcLoop own dg dt de xs (lockE own ρ1) with
  | none => simp only [eL] at hp
  | some yr =>
    obtain ⟨ys, ρ2⟩ := yr
    simp only [eL] at hp
    by_cases hlen : ys.length ≤ 1000000
    · rw [if_pos hlen] at hp
      have hsz : (1000000 : Nat) < sizeLine := by rw [sizeLine_eq]; decide
      have nL : ¬ Lent σ ρ1 D := fun ⟨i, s, p, h1, h2, h3⟩ => by
        obtain ⟨c, o, k1, _, _, _, k5, _⟩ := a1.own i s p h1 h2
        rw [h3] at k1
        cases k1
        rw [hD] at k5; cases k5
      have nOwn : ∀ {S' : Hp} {σ' : St} {H' : Hp} {ρ' : Env}, Abs K H1 S1 (Lent σ ρ1) S' σ' H' ρ' → ∀ (i : Nat) s p, ρ'[i]? = some s → s.own? = some p → noOw ρ' = true → σ'[i]? ≠ some (some (.ref D)) := fun {S' σ' H' ρ'} a i s p e es no z => by
        obtain ⟨c, o, k1, k2, k3, _⟩ := a.own i s p e es
        rw [z] at k1
        cases k1
        cases s with
        | io q => cases es; exact nL (k3 rfl)
        | ow q => exact noOw_get no e
        | un => cases es
        | sh q => cases es
      refine ⟨fun i m H => m = xs.length - i ∧ i ≤ xs.length ∧ ∃ S ρ acc ps zs, Abs K H1 S1 (Lent σ ρ1) S (wipe σ own) H ρ ∧ noOw ρ = true ∧ H D = some (.lst acc) ∧ S D = none ∧ RepL K S ps acc ∧ lcLoop own dg dt de (xs.drop i) ρ = some (zs, ρ2) ∧ ys = ps ++ zs,
        ⟨xs.length, by simp, Nat.zero_le _, S1, lockE own ρ1, [], [], ys, (a1.enter own).step (Step.hid a1.sub hD), noOw_lockE _ _, upd_same, Same.free a1.sub hD, .nil, by rw [List.drop_zero]; exact eL, rfl⟩, ?_⟩
      rintro i m H' ⟨rfl, hle, S', ρ', acc, ps, zs, a', no', hD', sD', rp, eL', eys⟩
      obtain ⟨js, jg⟩ := rj i S' H' a'.base a'.sub a'.keep
      by_cases hlt : i < xs.length
      · have ex : xs[i]? = some xs[i] := List.getElem?_eq_getElem hlt
        obtain ⟨j1, j2⟩ := jg _ ex
        rw [List.drop_eq_getElem_cons hlt] at eL'
        unfold lcLoop at eL'
        cases e1 : dg xs[i] ρ' with
        | none => simp only [e1] at eL'; cases eL'
        | some ρa =>
          simp only [e1] at eL'
          refine .inr ⟨j1, fun H => i + 1 ≤ xs.length ∧ ∃ S ρ acc ps zs, Abs K H1 S1 (Lent σ ρ1) S (wipe σ own) H ρ ∧ noOw ρ = true ∧ H D = some (.lst acc) ∧ S D = none ∧ RepL K S ps acc ∧ lcLoop own dg dt de (xs.drop (i + 1)) ρ = some (zs, ρ2) ∧ ys = ps ++ zs,
            fun H2 hN => ⟨xs.length - (i + 1), by omega, rfl, hN.1, hN.2⟩, fun x H2 y => ?_⟩
          obtain ⟨S2, st, rx⟩ := j2 x H2 y
          have aS := a'.step st
          have aT : Abs K H2 S2 (Lent σ ρ1) S2 (wipe σ own) H2 ρ' := aS.here no'
          have D2 : H2 D = some (.lst acc) := st.h _ _ hD'
          have sD2 : S2 D = none := by
            cases q : S2 D with
            | none => rfl
            | some o =>
              rcases st.new D o q with z | z | ⟨us, z⟩
              · rw [sD'] at z; cases z
              · rw [hD'] at z; cases z
              · subst z
                have z := (aS.sub _ _ q).symm.trans D2
                cases z
          have hg1 := hg H2 S2 (Lent σ ρ1) S2 (wipe σ own) H2 ρ' ρa xs[i] x (fun σ2 H2' => H2' = H2 ∧ Abs K H2 S2 (Lent σ ρ1) S2 σ2 H2 ρa) aT rx e1 fun σ2 a2 => ⟨rfl, a2⟩
          have hg2 := hgw x (wipe σ own) H2 _ hg1
          have body : ∀ σ2 H2', (wipe σ2 own = wipe (wipe σ own) own ∧ H2' = H2 ∧ Abs K H2 S2 (Lent σ ρ1) S2 σ2 H2 ρa) → (wipe σ2 own = wipe σ own ∧ tt σ2 H2' fun b H3 =>
              if b = true then te σ2 H3 fun y H4 => ∃ acc, H4 D = some (.lst acc) ∧ acc.length < sizeLine ∧ (fun H => i + 1 ≤ xs.length ∧ ∃ S ρ acc ps zs, Abs K H1 S1 (Lent σ ρ1) S (wipe σ own) H ρ ∧ noOw ρ = true ∧ H D = some (.lst acc) ∧ S D = none ∧ RepL K S ps acc ∧ lcLoop own dg dt de (xs.drop (i + 1)) ρ = some (zs, ρ2) ∧ ys = ps ++ zs) (upd H4 D (.lst (acc ++ [y])))
              else (fun H => i + 1 ≤ xs.length ∧ ∃ S ρ acc ps zs, Abs K H1 S1 (Lent σ ρ1) S (wipe σ own) H ρ ∧ noOw ρ = true ∧ H D = some (.lst acc) ∧ S D = none ∧ RepL K S ps acc ∧ lcLoop own dg dt de (xs.drop (i + 1)) ρ = some (zs, ρ2) ∧ ys = ps ++ zs) H3) := by
            rintro σ2 H2' ⟨hw, rfl, a2⟩
            rw [wipe_wipe] at hw
            refine ⟨hw, ?_⟩
            -- back to the wiped slots
            have bk : ∀ {S3 H3 : Hp} {ρ3 : Env}, Abs K H2' S2 (Lent σ ρ1) S3 σ2 H3 ρ3 → noOw ρ3 = true → Abs K H1 S1 (Lent σ ρ1) S3 (wipe σ own) H3 (wipeE own ρ3) := fun {S3 H3 ρ3} a3 no3 => by
              refine (aS.along a3 no3).forget ?_ fun j s e n => ?_
              · rw [wipeE_length, a3.len, ← wipe_len σ2 own, hw]
              · obtain ⟨h1, h2⟩ := wipeE_get e n
                refine ⟨h2, ?_⟩
                rw [← hw, getElem?_wipe h1]
            have kD : ∀ {S3 H3 : Hp} {ρ3 : Env}, Abs K H2' S2 (Lent σ ρ1) S3 σ2 H3 ρ3 → H3 D = some (.lst acc) ∧ S3 D = none := fun {S3 H3 ρ3} a3 => by
              refine ⟨a3.keep D _ D2 nL, ?_⟩
              cases q : S3 D with
              | none => rfl
              | some o =>
                rcases a3.grow D o q with z | z | ⟨us, z⟩
                · rw [sD2] at z; cases z
                · rw [D2] at z; cases z
                · subst z
                  have z := (a3.sub _ _ q).symm.trans (a3.keep D _ D2 nL)
                  cases z
            refine ht H2' S2 (Lent σ ρ1) S2 σ2 H2' ρa _ a2 ?_
            cases e2 : dt ρa with
            | bad => simp only [e2] at eL'; cases eL'
            | exc x ρb => simp only [e2] at eL'; cases eL'
            | ok b ρb =>
              intro b' S3 H3 a3 rb
              cases rb
              simp only [e2] at eL'
              cases b with
              | false =>
                simp only [Bool.false_eq_true, if_false]
                by_cases no3 : noOw ρb = true
                · simp only [if_pos no3] at eL'
                  obtain ⟨d1, d2⟩ := kD a3
                  exact ⟨hlt, S3, wipeE own ρb, acc, ps, zs, bk a3 no3, noOw_wipeE _ _ no3, d1, d2, rp.up (st.s.trans a3.base), eL', eys⟩
                · simp only [if_neg no3] at eL'; cases eL'
              | true =>
                simp only [if_true]
                have a3' : Abs K H2' S3 (Lent σ ρ1) S3 σ2 H3 ρb := a3.rebase
                refine he H2' S3 (Lent σ ρ1) S3 σ2 H3 ρb _ a3' ?_
                cases e3 : de ρb with
                | bad => simp only [e3] at eL'; cases eL'
                | exc x ρc => simp only [e3] at eL'; cases eL'
                | ok y ρc =>
                  intro z S4 H4 a4' rz
                  have a4 := a3.unbase a4'
                  simp only [e3] at eL'
                  by_cases no4 : noOw ρc = true
                  · simp only [if_pos no4] at eL'
                    cases e5 : lcLoop own dg dt de (xs.drop (i + 1)) (wipeE own ρc) with
                    | none => simp only [e5] at eL'; cases eL'
                    | some yr =>
                      obtain ⟨ys', ρ4⟩ := yr
                      simp only [e5] at eL'
                      cases eL'
                      obtain ⟨d1, d2⟩ := kD a4
                      have hl : acc.length < 1000000 := by
                        have z1 := rp.length
                        have z2 := congrArg List.length eys
                        rw [List.length_append, List.length_cons] at z2
                        omega
                      refine ⟨acc, d1, by omega, hlt, S4, wipeE own ρc, acc ++ [z], ps ++ [y], ys', (bk a4 no4).other hD d2 fun j s p e es => nOwn (bk a4 no4) j s p e es (noOw_wipeE _ _ no4), noOw_wipeE _ _ no4, upd_same, d2,
                        (rp.up (st.s.trans a4.base)).append (.cons rz .nil), e5, by rw [eys, List.append_assoc]; rfl⟩
                  · simp only [if_neg no4] at eL'; cases eL'
          exact hgm x (wipe σ own) H2 _ _ body hg2
      · have ei : i = xs.length := by omega
        subst ei
        rw [List.drop_length] at eL'
        unfold lcLoop at eL'
        cases eL'
        rw [List.append_nil] at eys
        subst eys
        refine .inl ⟨js (Nat.le_refl _), hp (.ref D) S' H' (a1.exit a') ⟨D, .lst acc, rfl, a1.none0 hD, sD', hD', rp, fun j s q ej es z => ?_⟩ fun c o e nl nt sn => ⟨?_, a'.keep c o e nl⟩⟩
        · have a2 := a1.exit a'
          obtain ⟨c, o, k1, k2, k3, k4, k5, k6⟩ := a2.own j s q ej es
          rcases backE_get ej (by intro w; subst w; cases es) with ⟨_, q', hq, _⟩ | ⟨h1, t, t', h2, h3, h4⟩
          · subst hq; cases es
          · have ht : ∃ p, t'.own? = some p := by
              cases t <;> cases t' <;> simp [Sl.back] at h4 <;> subst h4 <;> first | (cases es; done) | exact ⟨_, rfl⟩
            obtain ⟨p, hp'⟩ := ht
            exact nOwn a' j t' p h3 hp' no' (by rw [getElem?_wipe h1]; exact z)
        · cases q : S' c with
          | none => rfl
          | some o' =>
            rcases a'.grow c o' q with z | z | ⟨us, z⟩
            · rw [sn] at z; cases z
            · rw [e] at z; cases z
            · subst z
              have z1 := (a'.sub _ _ q).symm.trans (a'.keep c o e nl)
              cases z1
              exact (nt us rfl).elim
    · rw [if_neg hlen] at hp
      exact hp.elim
theorem itr2_keysK {S H : Hp} {M : Addr → Prop} {b : Addr} {o : Obj} {kvs : List (Key × V)} (h : H b = some (.frz o (.dK kvs))) (hm : ¬ M b) : ItR2 K S H M (kvs.map fun p => keyPV p.1) (Itk b o kvs) := by
  intro i S1 H1 s1 s2 kp
  have hH := kp _ _ h hm
  refine ⟨fun hl => ⟨hH, by simpa using hl⟩, fun p e => ?_⟩
  rw [List.getElem?_map] at e
  cases q : kvs[i]? with
  | none => rw [q] at e; cases e
  | some kv =>
    rw [q] at e
    cases e
    refine ⟨⟨hH, (List.getElem?_eq_some_iff.mp q).1⟩, fun x H2 y => ?_⟩
    obtain ⟨rfl, k, v, h1, rfl⟩ := y
    rw [q] at h1
    cases h1
    exact ⟨S1, Step.refl s2, by cases k <;> constructor⟩
theorem itr2_keysT {S H : Hp} {M : Addr → Prop} {b : Addr} {o : Obj} {kvs : List (List Key × V)} (h : H b = some (.frz o (.dT kvs))) (hm : ¬ M b) : ItR2 K S H M (kvs.map fun p => .tup (p.1.map keyPV)) (Itkt b o kvs) := by
  intro i S1 H1 s1 s2 kp
  have hH := kp _ _ h hm
  refine ⟨fun hl => ⟨hH, by simpa using hl⟩, fun p e => ?_⟩
  rw [List.getElem?_map] at e
  cases q : kvs[i]? with
  | none => rw [q] at e; cases e
  | some kv =>
    rw [q] at e
    cases e
    refine ⟨⟨hH, (List.getElem?_eq_some_iff.mp q).1⟩, fun x H2 y => ?_⟩
    obtain ⟨rfl, k, v, c, h1, rfl, hc⟩ := y
    rw [q] at h1
    cases h1
    cases z : S1 c with
    | some w =>
      have e2 := s2 _ _ z
      rw [hc] at e2
      cases e2
      exact ⟨S1, Step.refl s2, .tup z (rep_keys k)⟩
    | none =>
      refine ⟨upd S1 c (.tup (k.map kV)), ⟨same_upd z, Same.refl _, fun d w e2 => ?_, fun d w e2 => ?_⟩, .tup upd_same (rep_keys k)⟩
      · by_cases hd : d = c
        · subst hd; rw [upd_same] at e2; cases e2; exact hc
        · rw [upd_ne hd] at e2; exact s2 _ _ e2
      · by_cases hd : d = c
        · subst hd; rw [upd_same] at e2; cases e2; exact .inr (.inr ⟨_, rfl⟩)
        · rw [upd_ne hd] at e2; exact .inl e2
def dLcDk (own : List Nat) (i : Nat) (tgt : DenG) (test : DenB) (elt : Den) : Den := fun ρ => match (ρ[i]? : Option Sl) with
  | some (.ow (.dic t ks ps)) => (match lcLoop own tgt test elt ks (lockE own (ρ.set i .un)) with
    | some (ys, ρ2) => if ys.length ≤ 1000000 then .ok (.lst ys) ((backE own (ρ.set i .un) ρ2).set i (.ow (.dic t ks ps))) else .bad
    | none => .bad)
  | _ => .bad
theorem not_own_frz {S : Hp} {p : PV} {o : Obj} {u : HO} (h : OwnO K S p (.frz o u)) : False := by
  unfold OwnO at h
  split at h <;> first | exact h.elim | (rename_i e; cases e) | (rename_i e _; cases e)
section
variable {H₀ S₀ : Hp} {M : Addr → Prop} {S H S' H' : Hp} {σ : St} {ρ ρ' : Env} {i : Nat} {d : PV} {b : Addr} {u : HO} {o : Obj}
/-- the slot's object, locked and out of sight -/
theorem Abs.hide (a : Abs K H₀ S₀ M S σ H ρ) (e : ρ[i]? = some (.ow d)) (hb : σ[i]? = some (some (.ref b))) (h0 : H₀ b = none) (hS : S b = none) : Abs K H₀ S₀ M S σ (upd H b (.frz o u)) (ρ.set i .un) ∧ ¬ Lent σ (ρ.set i .un) b := by
  have ne : ∀ {j : Nat} {s : Sl} {p : PV}, (ρ.set i .un)[j]? = some s → s ≠ .un → j ≠ i ∧ ρ[j]? = some s := fun {j s p} ej hs => by
    rw [List.getElem?_set] at ej
    split at ej
    · split at ej
      · cases ej; exact (hs rfl).elim
      · cases ej
    · rename_i h; exact ⟨fun z => h z.symm, ej⟩
  have no : ¬ Lent σ (ρ.set i .un) b := fun ⟨j, s, p, h1, h2, h3⟩ => by
    obtain ⟨n1, n2⟩ := ne (p := p) h1 (by intro z; subst z; cases h2)
    exact n1 (a.dis j i s _ p _ b n2 h2 e rfl h3 hb)
  refine ⟨?_, no⟩
  refine Abs.other ⟨by rw [List.length_set]; exact a.len, a.sub, a.base, a.grow, a.keep, a.there, fun j p ej => ?_, fun j s p ej es => ?_, fun j j' s t p q c e1 e2 e3 e4 e5 e6 => ?_⟩ h0 hS fun j s p ej es z => no ⟨j, s, p, ej, es, z⟩
  · exact a.sh j p (ne (p := p) ej (by intro z; cases z)).2
  · exact a.own j s p (ne (p := p) ej (by intro z; subst z; cases es)).2 es
  · exact a.dis j j' s t p q c (ne (p := p) e1 (by intro z; subst z; cases e2)).2 e2 (ne (p := p) e3 (by intro z; subst z; cases e4)).2 e4 e5 e6
/-- and back -/
theorem Abs.show_ (a : Abs K H₀ S₀ M S' σ H' ρ') (hb : σ[i]? = some (some (.ref b))) (h0 : H₀ b = none) (hS : S' b = none) (hH : H' b = some (.frz o u)) (ho : OwnO K S' d u) : Abs K H₀ S₀ M S' σ (upd H' b u) (ρ'.set i (.ow d)) := by
  have nf : ∀ (j : Nat) (s : Sl) (p : PV), ρ'[j]? = some s → s.own? = some p → σ[j]? ≠ some (some (.ref b)) := fun j s p ej es z => by
    obtain ⟨c, w, k1, k2, k3, k4, k5, k6⟩ := a.own j s p ej es
    rw [z] at k1
    cases k1
    rw [hH] at k5
    cases k5
    exact not_own_frz k6
  have cs : ∀ {j : Nat} {s : Sl}, (ρ'.set i (.ow d))[j]? = some s → (j = i ∧ s = .ow d) ∨ (j ≠ i ∧ ρ'[j]? = some s) := fun {j s} ej => by
    rw [List.getElem?_set] at ej
    split at ej
    · split at ej
      · cases ej; rename_i h _; exact .inl ⟨h.symm, rfl⟩
      · cases ej
    · rename_i h; exact .inr ⟨fun z => h z.symm, ej⟩
  refine ⟨by rw [List.length_set]; exact a.len, fun c x e => ?_, a.base, a.grow, fun c x e m => ?_, fun c x e => ?_, fun j p ej => ?_, fun j s p ej es => ?_, fun j j' s t p q c e1 e2 e3 e4 e5 e6 => ?_⟩
  · rw [upd_ne (fun z => by rw [z, hS] at e; cases e)]; exact a.sub _ _ e
  · rw [upd_ne (fun z => by rw [z, h0] at e; cases e)]; exact a.keep _ _ e m
  · rw [upd_ne (fun z => by rw [z, h0] at e; cases e)]; exact a.there _ _ e
  · rcases cs ej with ⟨_, z⟩ | ⟨_, z⟩
    · cases z
    · exact a.sh j p z
  · rcases cs ej with ⟨rfl, rfl⟩ | ⟨_, z⟩
    · cases es
      exact ⟨b, u, hb, fun _ => h0, (fun z => by cases z), hS, upd_same, ho⟩
    · obtain ⟨c, w, k1, k2, k3, k4, k5, k6⟩ := a.own j s p z es
      refine ⟨c, w, k1, k2, k3, k4, ?_, k6⟩
      rw [upd_ne (fun y => by subst y; exact nf j s p z es k1)]
      exact k5
  · rcases cs e1 with ⟨rfl, rfl⟩ | ⟨n1, z1⟩
    · rcases cs e3 with ⟨rfl, rfl⟩ | ⟨n2, z2⟩
      · rfl
      · rw [hb] at e5; cases e5; exact (nf j' t q z2 e4 e6).elim
    · rcases cs e3 with ⟨rfl, rfl⟩ | ⟨n2, z2⟩
      · rw [hb] at e6; cases e6; exact (nf j s p z1 e2 e5).elim
      · exact a.dis j j' s t p q c z1 e2 z2 e4 e5 e6
theorem Fr.show_ {ys : List PV} {v : V} (f : Fr K H₀ S' H' σ ρ' (.lst ys) v) (hb : σ[i]? = some (some (.ref b))) (hH : H' b = some (.frz o u)) : Fr K H₀ S' (upd H' b u) σ (ρ'.set i (.ow d)) (.lst ys) v := by
  obtain ⟨c, w, h1, h2, h3, h4, h5, h6⟩ := f
  have hc : c ≠ b := fun z => by subst z; rw [hH] at h4; cases h4; exact not_own_frz h5
  refine ⟨c, w, h1, h2, h3, by rw [upd_ne hc]; exact h4, h5, fun j s q ej es z => ?_⟩
  rw [List.getElem?_set] at ej
  split at ej
  · split at ej
    · rename_i h _
      subst h
      rw [hb] at z
      cases z
      exact hc rfl
    · cases ej
  · exact h6 j s q ej es z
end
end
section
variable {X : Cx} {W : WX} {fr : Bool} {k : Nat} {pos p p2 : Pos} {e a : Expr} {da db : Den} {x : Str}
theorem fo_lcDk {K : PySem.W.Frag} {mg : Str → Option Value} {i : Nat} {g : TG} {dg : DenG} {tt : TT} {dt : DenB} {te : TE} {de : Den} {own : List Nat} (hg : GOk K g dg) (hgw : TgW own g) (hgm : GMono g) (ht : TOk K mg (fun _ _ _ _ => False) tt dt) (he : EOk K mg (fun _ _ _ _ => False) te de) :
    FOk K mg W (tLockR (tLc (iKeys (tVar i)) g tt te own)) (dLcDk own i dg dt de) := fun H₀ S₀ M S σ H ρ Q ab hp => by
  unfold dLcDk at hp
  split at hp
  · rename_i t ks ps ei
    obtain ⟨b, u, k1, k2, k3, k4, k5, k6⟩ := ab.own i _ _ ei rfl
    have h0 := k2 rfl
    have hid := fun (o : Obj) => ab.hide (o := o) (u := u) ei k1 h0 k4
    have fin : ∀ (o : Obj), match lcLoop own dg dt de ks (lockE own (ρ.set i .un)) with
      | some (ys, ρ2) => if ys.length ≤ 1000000 then (∀ v S' H', Abs K H₀ S M S' σ H' (backE own (ρ.set i .un) ρ2) → Fr K H₀ S' H' σ (backE own (ρ.set i .un) ρ2) (.lst ys) v → (∀ c w, upd H b (.frz o u) c = some w → ¬ Lent σ (ρ.set i .un) c → (∀ us, w ≠ .tup us) → S c = none → S' c = none ∧ H' c = some w) → (H' b = some (.frz o u) ∧ Q v (upd H' b u))) else False
      | none => False := fun o => by
      cases eL : lcLoop own dg dt de ks (lockE own (ρ.set i .un)) with
      | none => simp only [eL] at hp; exact hp.elim
      | some yr =>
        obtain ⟨ys, ρ2⟩ := yr
        simp only [eL] at hp ⊢
        by_cases hl : ys.length ≤ 1000000
        · rw [if_pos hl] at hp ⊢
          intro v S' H' a' f kp
          obtain ⟨z1, z2⟩ := kp b _ upd_same (hid o).2 (fun _ z => by cases z) k4
          refine ⟨z2, hp v S' _ (ab.unbase (a'.show_ k1 h0 z1 z2 (k6.up a'.base))) (f.show_ k1 z2)⟩
        · rw [if_neg hl] at hp; exact hp.elim
    refine .inl ⟨b, u, k5, ?_, fun od => ?_⟩
    · unfold OwnO at k6
      split at k6 <;> first | trivial | exact k6.elim
    · refine ⟨.ref b, k1, b, od, rfl, ?_⟩
      unfold OwnO at k6
      split at k6
      · rename_i z; cases z
      · rename_i kvs z
        cases z
        obtain ⟨rfl, _⟩ := k6
        exact .inl ⟨_, upd_same, lc_inner2 hg hgw hgm ht he (hid od).1.rebase (itr2_keysK upd_same (hid od).2) (fin od)⟩
      · rename_i kvs z
        cases z
        obtain ⟨rfl, _⟩ := k6
        exact .inr ⟨_, upd_same, lc_inner2 hg hgw hgm ht he (hid od).1.rebase (itr2_keysT upd_same (hid od).2) (fin od)⟩
      · exact k6.elim
  · exact hp.elim
theorem df_lcDk {elt tg : Expr} {ifs : List Expr} {scope : Scope} {g : TG} {dg : DenG} {dt : DenB} {de : Den} (i : Nat) (own : List (Str × Nat)) (c : Ctx X W k) (hv : PE X (.Name x p) (tVar i)) (hl : LG X.K (own.map (·.2)) g dg)
    (hg : ∀ (s : Shared) (H : Hp) (C : Addr) (cl : List (Str × Addr)) (fp : List Addr), DG (X.blk s H scope (PySem.compEnvC scope cl C X.env) fp) tg g dg) (ht : ∀ (s : Shared) (H : Hp) (C : Addr) (cl : List (Str × Addr)) (fp : List Addr), DTs (X.blk s H scope (PySem.compEnvC scope cl C X.env) fp) (fun _ _ _ _ => False) ifs dt)
    (he : ∀ (s : Shared) (H : Hp) (C : Addr) (cl : List (Str × Addr)) (fp : List Addr), DE (X.blk s H scope (PySem.compEnvC scope cl C X.env) fp) (fun _ _ _ _ => False) elt de) (ok : BlkOk X.N X.env.scope scope own := by exact blkOk_by (by decide +kernel)) (hs : ∀ z, foldedSetIterable (.Name x p) X.env z = pure z := by intro _; rfl) :
    DF X W (.ListComp elt [⟨tg, .Name x p, ifs, 0⟩] scope pos) (dLcDk (own.map (·.2)) i dg dt de) :=
  DF.of (pe_lockR (pe_lc c.calm c.nd (pi_keys hv) ok (fun s H C cl fp => (hg s H C cl fp).pg) ht he hs)) (fo_lcDk hl.ok hl.w hl.mono canon_ok canon_ok)
@[simp] theorem ap_dLcDk {own : List Nat} {i : Nat} {dg : DenG} {dt : DenB} {ρ : Env} : dLcDk own i dg dt da ρ = match (ρ[i]? : Option Sl) with
  | some (.ow (.dic t ks ps)) => (match lcLoop own dg dt da ks (lockE own (ρ.set i .un)) with
    | some (ys, ρ2) => if ys.length ≤ 1000000 then .ok (.lst ys) ((backE own (ρ.set i .un) ρ2).set i (.ow (.dic t ks ps))) else .bad
    | none => .bad)
  | _ => .bad := id rfl
end
end PL

set_option Elab.async false
set_option linter.all false
set_option maxRecDepth 100000
set_option maxHeartbeats 4000000
namespace PL
open PySem PySem.Spec L2
set_option autoImplicit false
/-! ### d[a], e[b] = a pair -/
def putAt (i : Nat) (e : PV) (db : Den) : Env → Option Env := fun ρ => match ownAt ρ i with
  | none => none
  | some _ => match db ρ with
    | .ok k ρ2 => (match ownAt ρ2 i with
      | some (s, .dic t ks vs) => if (kGood t k && decide (ks.length < 100000)) = true then some (ρ2.set i (s.with (.dic t (dPutQ ks vs k e).1 (dPutQ ks vs k e).2))) else none
      | _ => none)
    | _ => none
def sPut2 (i : Nat) (da : Den) (j : Nat) (db de : Den) : DenS := fun ρ => (de ρ).bindS fun r ρ1 => match r with
  | .tup [e1, e2] => (match putAt i e1 da ρ1 with
    | some ρ2 => (match putAt j e2 db ρ2 with
      | some ρ3 => .nx ρ3
      | none => .bad)
    | none => .bad)
  | _ => .bad
section
variable {X : Cx} {W : WX} {fr : Bool} {k : Nat} {pos p p2 p3 p4 pt : Pos} {e a b : Expr} {da db de : Den} {x y : Str}
theorem put_at {K : PySem.W.Frag} {mg : Str → Option Value} {i : Nat} {ti : TE} {H₀ S₀ : Hp} {M : Addr → Prop} {S H : Hp} {σ : St} {ρ ρ' : Env} {q : PV} {v : V} {Q : St → Hp → Prop} (hi : EOk K mg W ti db) (a1 : Abs K H₀ S₀ M S σ H ρ) (ry : Rep K S q v) (hp : putAt i q db ρ = some ρ') (kk0 : ∀ S' H', Same S S' → Abs K H₀ S₀ M S' σ H' ρ' → Q σ H') : L2.gSub (tVar i) ti rSetD v σ H Q := by
  unfold putAt at hp
  cases e0 : ownAt ρ i with
  | none => rw [e0] at hp; cases hp
  | some sp =>
    obtain ⟨s0, p0⟩ := sp
    rw [e0] at hp
    obtain ⟨e1, e2⟩ := ownAt_some e0
    obtain ⟨b, o, h1, h2, h3, h4, h5, h6⟩ := a1.own i _ _ e1 e2
    refine ⟨.ref b, h1, ?_⟩
    refine hi H₀ S M S σ H ρ _ a1.rebase ?_
    cases ed : db ρ with
    | bad => rw [ed] at hp; cases hp
    | exc _ _ => rw [ed] at hp; cases hp
    | ok q2 ρ2 =>
      rw [ed] at hp
      intro x S2 H2 a2' rx
      have a2 := a1.unbase a2'
      have s2 : Same S S2 := a2'.base
      have rx : Rep K S2 q2 x := rx
      have hp : (match ownAt ρ2 i with
        | some (s, .dic t ks vs) => if (kGood t q2 && decide (ks.length < 100000)) = true then some (ρ2.set i (s.with (.dic t (dPutQ ks vs q2 q).1 (dPutQ ks vs q2 q).2))) else none
        | _ => none) = some ρ' := hp
      cases e3 : ownAt ρ2 i with
      | none => rw [e3] at hp; cases hp
      | some sp =>
        obtain ⟨s, p⟩ := sp
        rw [e3] at hp
        obtain ⟨e4, e5⟩ := ownAt_some e3
        obtain ⟨b', o', k1, k2, k3, k4, k5, k6⟩ := a2.own i _ _ e4 e5
        rw [h1] at k1
        cases k1
        cases p with
        | dic t ks vs =>
          have hp : (if (kGood t q2 && decide (ks.length < 100000)) = true then some (ρ2.set i (s.with (.dic t (dPutQ ks vs q2 q).1 (dPutQ ks vs q2 q).2))) else none) = some ρ' := hp
          split at hp
          · rename_i hz
            cases hp
            simp only [Bool.and_eq_true, decide_eq_true_eq] at hz
            obtain ⟨hg, hl⟩ := hz
            obtain ⟨hg1, hg2⟩ := (Bool.and_eq_true _ _).mp hg
            have hs : (100000 : Nat) < sizeLine := by rw [sizeLine_eq]; decide
            have keyed : ∀ kk, key? q2 = some kk → rSetD (V.ref b) x v H2 fun H3 => Q σ H3 := fun kk hq => by
              have eq := key?_some hq
              subst eq
              have ex := rx.keyV
              subst ex
              cases t with
              | true => cases kk <;> cases hg2
              | false =>
                cases o' with
                | dK kvs =>
                  have hn : kvs.length < sizeLine := by
                    have : ks = kvs.map (fun p => keyPV p.1) := k6.1
                    rw [this, List.length_map] at hl
                    omega
                  exact ⟨b, _, rfl, DPut.k k5 hn, kk0 S2 _ s2 (a2.mut e4 e5 h1 (OwnO.putK k6 (ry.up s2)))⟩
                | _ => exact k6.elim
            cases q2 with
            | tup qs =>
              cases rx with
              | tup g1 g2 =>
                rename_i c us
                have hk : ((keys? qs).map (Sum.inr : List Key → KK)).isSome = true := hg1
                cases hks : keys? qs with
                | none => rw [hks] at hk; cases hk
                | some kk2 =>
                  have eq := keys?_some hks
                  subst eq
                  have hx := a2.sub _ _ g1
                  rw [g2.keyVs] at hx
                  cases t with
                  | false => cases hg2
                  | true =>
                    cases o' with
                    | dT kvs =>
                      have hn : kvs.length < sizeLine := by
                        have : ks = kvs.map (fun p => .tup (p.1.map keyPV)) := k6.1
                        rw [this, List.length_map] at hl
                        omega
                      exact ⟨b, _, rfl, DPut.t k5 hx hn, kk0 S2 _ s2 (a2.mut e4 e5 h1 (OwnO.putT k6 (ry.up s2)))⟩
                    | _ => exact k6.elim
            | int i => exact keyed (.inl i) rfl
            | str z => exact keyed (.inr z) rfl
            | _ => cases hg1
          · cases hp
        | _ => cases hp
theorem so_put2 {K : PySem.W.Frag} {mg : Str → Option Value} {i j : Nat} {t1 t2 te : TE} (h1 : EOk K mg W t1 da) (h2 : EOk K mg W t2 db) (he : EOk K mg W te de) : SOk K mg W fr (tAsg te (L2.gTup K 2 (L2.gCons (L2.gSub (tVar i) t1 rSetD) (L2.gCons (L2.gSub (tVar j) t2 rSetD) L2.gNil)))) (sPut2 i da j db de) := fun H₀ S₀ M S σ H ρ D ab hp =>
  he.bindS ab hp fun r ρ1 y S1 H1 _ a1 _ ry hp => by
    have ry : Rep K S1 r y := ry
    cases ry with
    | @tup c vs ps g1 g2 =>
      cases g2 with
      | nil => exact hp.elim
      | @cons e1 _ _ _ r1 g2 =>
        cases g2 with
        | nil => exact hp.elim
        | @cons e2 _ _ _ r2 g2 =>
          cases g2 with
          | cons _ _ => exact hp.elim
          | nil =>
            simp only at hp
            cases q1 : putAt i e1 da ρ1 with
            | none => simp only [q1] at hp; exact hp.elim
            | some ρ2 =>
              simp only [q1] at hp
              cases q2 : putAt j e2 db ρ2 with
              | none => simp only [q2] at hp; exact hp.elim
              | some ρ3 =>
                simp only [q2] at hp
                refine ⟨_, _, rfl, .inl (.inl (a1.sub _ _ g1)), rfl, _, _, rfl, put_at h1 a1 r1 q1 fun S2 H2 s2 a2 => ⟨_, _, rfl, put_at h2 a2 (r2.up s2) q2 fun S3 H3 s3 a3 => ⟨rfl, hp S3 σ H3 a3⟩⟩⟩
    | _ => exact hp.elim
theorem ds_put2 (i j : Nat) (c : Ctx X W k) (h1 : PE X (.Name x p) (tVar i)) (h2 : PE X (.Name y p3) (tVar j)) (ha : DE X W a da) (hb : DE X W b db) (h : DE X W e de) {kk : Nat}
    (hs : swapsWithSole [.Tuple [.Subscript (.Name x p) a p2, .Subscript (.Name y p3) b p4] kk pt] e pos.line X.env = pure false := by rfl) (hw : swappedStores [.Tuple [.Subscript (.Name x p) a p2, .Subscript (.Name y p3) b p4] kk pt] e X.env = pure none := by rfl)
    (z1 : ∀ v, assign (.Subscript (.Name x p) a p2) X.env v = (do
      let ov ← holding [v] (eval (.Name x p) X.env)
      let iv ← holding [v, ov] (eval a X.env)
      standAt p2
      holding [v, ov, iv] (setItem ov iv v)
      release [v, ov, iv] []) := by intro _; rfl) (z2 : ∀ v, assign (.Subscript (.Name y p3) b p4) X.env v = (do
      let ov ← holding [v] (eval (.Name y p3) X.env)
      let iv ← holding [v, ov] (eval b X.env)
      standAt p4
      holding [v, ov, iv] (setItem ov iv v)
      release [v, ov, iv] []) := by intro _; rfl) :
    DS X W fr (.Assign [.Tuple [.Subscript (.Name x p) a p2, .Subscript (.Name y p3) b p4] kk pt] e pos) (sPut2 i da j db de) :=
  DS.of (ps_asg h (pg_tup c.calm (pgs_cons (pg_sub h1 ha (set_dict (by have := c.hu; omega)) z1) (pgs_cons (pg_sub h2 hb (set_dict (by have := c.hu; omega)) z2) pgs_nil))) hs hw) (so_put2 canon_ok canon_ok canon_ok)
end
end PL

set_option Elab.async false
set_option linter.all false
set_option maxRecDepth 100000
set_option maxHeartbeats 4000000
namespace PL
open PySem PySem.Spec L2
open PyProof.Rows hiding St
open PySem.W (alike alikeAll dataLt AllAlike Sortable dataLe EachIs)
set_option autoImplicit false
/-! ### sorted(a dict whose keys are tuples) -/
section
variable {X : Cx} {K : PySem.W.Frag}
def keyZ (H : Hp) (z : V × PV) (k : List Key) : Prop := ∃ c, z = (.ref c, .tup (k.map keyPV)) ∧ H c = some (.tup (k.map kV))
def rSortDT (K : PySem.W.Frag) : List V → Hp → VK → Prop := fun xs H Q => ∃ (a : Addr) (kvs : List (List Key × V)), xs = [.ref a] ∧ Rd H a (.dT kvs) ∧ sortOk (kvs.map fun p => .tup (p.1.map keyPV)) = true ∧
  ∀ (zs : List (V × PV)) (b : Addr), zs.map (·.2) = (kvs.map fun p => PV.tup (p.1.map keyPV)) → (∀ z ∈ zs, ∃ k, keyZ H z k) → H b = none → Q (.ref b) (upd H b (.lst ((zs.mergeSort ordZ).map (·.1))))
theorem keyZ_dp {H : Hp} {z : V × PV} {k : List Key} (h : keyZ H z k) (hs : SeqAt.shaped z.2.toD = true) : Dp K H z.1 z.2.toD := by
  obtain ⟨c, rfl, hc⟩ := h
  have h1 : Rep K (upd (fun _ => none) c (.tup (k.map kV))) (.tup (k.map keyPV)) (.ref c) := .tup upd_same (rep_keys k)
  refine h1.dp (fun d x e => ?_) _ _ (SeqAt.canLay_of_shaped hs)
  by_cases hd : d = c
  · subst hd; rw [upd_same] at e; cases e; exact hc
  · rw [upd_ne hd] at e; cases e
theorem each_keysZ {H : Hp} : ∀ {kvs : List (List Key × V)} {ks : List (List Key × Addr × Value)}, KT H kvs ks → ∃ zs : List (V × PV), zs.map (·.2) = (kvs.map fun p => PV.tup (p.1.map keyPV)) ∧ (∀ z ∈ zs, ∃ k, keyZ H z k) ∧ Vals (zs.map (·.1)) (ks.map fun x => Value.ref x.2.1)
  | [], _, h => by cases h; exact ⟨[], rfl, (fun z hz => nomatch hz), .nil⟩
  | p :: kvs, _, h => by
    cases h with
    | @cons _ q _ qs h t =>
      obtain ⟨zs, e1, e2, e3⟩ := each_keysZ t
      refine ⟨(.ref q.2.1, .tup (p.1.map keyPV)) :: zs, by rw [List.map_cons, List.map_cons, e1], fun z hz => ?_, .cons rfl e3⟩
      rcases List.mem_cons.mp hz with e | e
      · subst e; exact ⟨p.1, q.2.1, rfl, h.2.1⟩
      · exact e2 z e
theorem cr_sortDT (hc : X.calm = true) (hu : X.A.units + 64 < cLine) : CallR X (.builtin "sorted") (rSortDT X.K) := by
  intro pins s σ H xs us Q I r h
  obtain ⟨d, kvs, rfl, hd, hok, q⟩ := h
  obtain ⟨u, rfl, rx⟩ := r.one
  cases rx
  obtain ⟨z, hs, ks, pr, o, es, ep, ho, hx, hdt, he, hn⟩ := (show ObjOk X.prog X.w H s.heap d (.dT kvs) from hd.ok I.hok)
  have l1 : es.size = ks.length := size_of_entries he
  have l2 : kvs.length = ks.length := Paired.length pr
  obtain ⟨zs, z1, z2, z3⟩ := each_keysZ pr
  have zl : zs.length = ks.length := by
    have := congrArg List.length z1
    rw [List.length_map, List.length_map] at this
    omega
  obtain ⟨g1, g2, g3, g4⟩ := sortOk_split hok
  have hz2 : ∀ w ∈ zs, SeqAt.shaped w.2.toD = true ∧ w.2.toD.depth ≤ 32 := fun w hw => g1 w.2 (by rw [← z1]; exact List.mem_map.mpr ⟨w, hw, rfl⟩)
  rw [← z1, List.map_map] at g2 g3
  refine Calls.call_function_entry PyProof.Rows.kind_sorted PyProof.Rows.plain_sorted PyProof.Rows.entry_sorted (PyProof.Rows.args_sorted1 _) ?_
  unfold Builtin.«sorted»
  refine wpAny_bind (m := checkCount "sorted" 1 1 _) (wpAny_pure ?_)
  refine wpAny_bind (PySem.W.kdu_collect (A := X.A.in1) (kdl_raw hs hx hdt) (I.ok.hd hc) ho (by omega) fun h' tk acc kp it => ?_)
  have ea : acc.toList = ks.map fun x => Value.ref x.2.1 := by
    refine List.ext_getElem? fun j => ?_
    rw [List.getElem?_map]
    have sz : acc.toList.length = ks.length := by rw [Array.length_toList, it.1]; exact l1
    by_cases hj : j < ks.length
    · have e1 : acc.toList[j]? = some (acc.toList[j]'(by omega)) := List.getElem?_eq_getElem (by omega)
      obtain ⟨en, hen, hv⟩ := it.2 j _ (by rw [← Array.getElem?_toList]; exact e1)
      have qe := entry_at he j
      rw [hen, List.getElem?_eq_getElem hj] at qe
      have e2 := Option.some.inj qe
      rw [e1, hv, e2, List.getElem?_eq_getElem hj]
      all_goals rfl
    · rw [List.getElem?_eq_none (by omega), List.getElem?_eq_none (by omega)]
      all_goals rfl
  rw [ea]
  have I1 : Inv X pins σ H { s with heap := h', toks := tk } := I.kept kp
  have hL : (ks.map fun x => Value.ref x.2.1).length ≤ sizeLine := by rw [List.length_map]; omega
  refine wpAny_bind (wpAny_newList ?_ hL)
  have hoL : (h'.push (seqObj "list" (ks.map fun x => Value.ref x.2.1).toArray 0)).get? h'.objs.size = some (seqObj "list" (ks.map fun x => Value.ref x.2.1).toArray 0) := Heap.get?_push_size _ rfl
  show wpAny _ _ _ _ _ { s with heap := h'.push (seqObj "list" (ks.map fun x => Value.ref x.2.1).toArray 0), toks := tk }
  have e := each_of_vals z3
  have er : EachIs (fun v (b : V × PV) => ∃ as, Reads (PySem.W.sortingHeap (h'.push (seqObj "list" (ks.map fun x => Value.ref x.2.1).toArray 0)) h'.objs.size (ks.map fun x => Value.ref x.2.1)) v (b.2.toD) as) (ks.map fun x => Value.ref x.2.1) zs := each_imp e fun u w m r => by
    obtain ⟨k, hk⟩ := z2 w m
    obtain ⟨as, rd⟩ := Dp.reads I1 _ _ _ (keyZ_dp (K := X.K) hk (hz2 w m).1) r
    exact ⟨as, PySem.W.reads_keeps (fun b o eb => PySem.W.sortingHeap_old (Nat.ne_of_lt (Heap.lt_size eb)) (Heap.get?_push_of_some _ eb)) rd⟩
  have hk2 : ∀ b, b ∈ zs → X.A.in1.units + 1 + b.2.toD.depth < cLine := fun b hb => by
    have := (hz2 b hb).2
    show X.A.units + 1 + 1 + _ < _
    omega
  refine wpAny_bind (wpAny_holding (wpAny_call_entry PyProof.Rows.slot_list_sort ⟨_, hoL, rfl⟩ PyProof.Rows.entry_list_sort
    (PySem.W.list_sort_vals hoL (PySem.W.SortsAt.data (PySem.W.each_map (R := fun v d => ∃ as, Reads _ v d as) (fun b : V × PV => b.2.toD) er) g2 g3 (PySem.W.bound_map hk2)) hL ⟨_, rfl, ?_⟩) (PyProof.Rows.args_list_sort _)))
  have h1 := PySem.W.sortVals_data (rev := false) e er g2
  obtain ⟨e', he'⟩ := PyProof.Rows.sortedHeap_at (vs := ks.map fun x => Value.ref x.2.1) (out := (PySem.W.sortVals (PySem.W.dataKind _ (zs.map fun z => z.2.toD)) false (ks.map fun x => Value.ref x.2.1) (ks.map fun x => Value.ref x.2.1)).toArray) hoL
  have hlen : ((zs.mergeSort ordZ).map (·.1)).length ≤ sizeLine := by
    rw [List.length_map, List.length_mergeSort]; omega
  refine wpAny_pure ⟨_, rfl, .ref h'.objs.size, upd H h'.objs.size (.lst ((zs.mergeSort ordZ).map (·.1))), I1.laid (t' := tk) (fun b u eb => ?_) (Nat.le_refl _)
    (show ObjOk X.prog X.w _ _ _ (.lst _) from ⟨hlen, _, e', vals_of_each h1, he'⟩), rfl, q zs _ z1 z2 (I1.hok.fresh (Nat.le_refl _))⟩
  have hb : b < h'.objs.size := Heap.lt_size eb
  rw [PyProof.Rows.sortedHeap_old (Nat.ne_of_lt hb) (by rw [size_push']; exact Nat.lt_succ_of_lt hb)]
  exact Heap.get?_push_of_some _ eb
theorem keys_step {H : Hp} : ∀ {zs : List (V × PV)} {S : Hp}, Same S H → (∀ z ∈ zs, ∃ k, keyZ H z k) → ∃ S2, Step S H S2 H ∧ ∀ z ∈ zs, Rep K S2 z.2 z.1
  | [], S, s, _ => ⟨S, Step.refl s, fun z hz => nomatch hz⟩
  | z :: zs, S, s, h => by
    obtain ⟨k, c, rfl, hc⟩ := h z (by simp)
    have key : ∃ S1, Step S H S1 H ∧ S1 c = some (.tup (k.map kV)) := by
      cases q : S c with
      | some w =>
        have e2 := s _ _ q
        rw [hc] at e2
        cases e2
        exact ⟨S, Step.refl s, q⟩
      | none =>
        refine ⟨upd S c (.tup (k.map kV)), ⟨same_upd q, Same.refl _, fun d w e2 => ?_, fun d w e2 => ?_⟩, upd_same⟩
        · by_cases hd : d = c
          · subst hd; rw [upd_same] at e2; cases e2; exact hc
          · rw [upd_ne hd] at e2; exact s _ _ e2
        · by_cases hd : d = c
          · subst hd; rw [upd_same] at e2; cases e2; exact .inr (.inr ⟨_, rfl⟩)
          · rw [upd_ne hd] at e2; exact .inl e2
    obtain ⟨S1, st1, h1⟩ := key
    obtain ⟨S2, st2, h2⟩ := keys_step st1.sub fun w hw => h w (List.mem_cons_of_mem _ hw)
    refine ⟨S2, st1.trans st2, fun w hw => ?_⟩
    rcases List.mem_cons.mp hw with e | e
    · subst e; exact .tup (st2.s _ _ h1) (rep_keys k)
    · exact h2 w e
variable {W : WX} {k : Nat} {pos p p2 p3 : Pos} {e a b : Expr} {da db : Den} {x : Str}
def dSortDT (da : Den) : Den := fun ρ => (da ρ).bind fun p ρ1 => match p with
  | .dic true ks _ => if sortOk ks then .ok (.lst (ks.mergeSort pvLe)) ρ1 else .bad
  | _ => .bad
theorem df_sortDT (c : Ctx X W k) (B : Bi X.mg) (ha : DE X W a da) (hg : Gl X "sorted" := by rfl) (na : starEach [a] X.env = (false, eval a X.env) :: starEach [] X.env := by rfl) (hpl : (backTo pos (starEach [] X.env)).any (·.1) = false := by rfl) :
    DF X W (.Call (.Name "sorted" p) [a] [] pos) (dSortDT da) :=
  DF.of (pe_callB (cr_sortDT c.calm c.hu) hg B.sorted (by decide +kernel) (pa_cons ha pa_nil na) (by decide) (by decide) na hpl) fun H₀ S₀ M S σ H ρ Q ab hp =>
    canon_ok.bind (Rl := rV X.K) (Rl' := rF X.K) ab hp fun q ρ1 v S1 H1 _ a1 _ r1 hp => by
      have r1 : Rep X.K S1 q v := r1
      cases r1 with
      | @dT d kvs ps h1 h2 =>
        simp only at hp
        split at hp
        · rename_i hz
          refine ⟨d, kvs, rfl, h1.same a1.sub, hz, fun zs b z1 z2 n => ?_⟩
          obtain ⟨S2, st, hr⟩ := keys_step (K := X.K) a1.sub z2
          have a2 := a1.step st
          have em : (kvs.map fun p => PV.tup (p.1.map keyPV)).mergeSort pvLe = (zs.mergeSort ordZ).map (·.2) := by
            rw [← z1]
            exact (List.map_mergeSort (r := ordZ) (s := pvLe) (f := fun z : V × PV => z.2) (l := zs) fun a _ b _ => rfl).symm
          rw [em] at hp
          have rl : RepL X.K S2 ((zs.mergeSort ordZ).map (·.2)) ((zs.mergeSort ordZ).map (·.1)) := repL_unzip fun z hz => hr z ((List.mergeSort_perm zs ordZ).mem_iff.mp hz)
          exact hp _ S2 _ (a2.fresh n (p := .lst _) (o := .lst _) rl).1 (a2.fresh n (p := .lst _) (o := .lst _) rl).2
        · exact hp.elim
      | _ => exact hp.elim
@[simp] theorem ap_dSortDT {ρ : Env} : dSortDT da ρ = (da ρ).bind fun p ρ1 => match p with
  | .dic true ks _ => if sortOk ks then .ok (.lst (ks.mergeSort pvLe)) ρ1 else .bad
  | _ => .bad := id rfl
end
/-- a measure: the length of a list -/
def muLen (i : Nat) (ρ : Env) : Nat := match (ρ[i]? : Option Sl) with
  | some (.sh (.lst l)) => l.length + 2
  | some (.ow (.lst l)) => l.length + 2
  | _ => 0
end PL

set_option Elab.async false
set_option linter.all false
set_option maxRecDepth 100000
set_option maxHeartbeats 4000000
namespace PL
open PySem PySem.Spec L2
open PyProof.Rows hiding St
set_option autoImplicit false
/-! ### {k: v for ..} with tuples as keys -/
section
variable {X : Cx} {K : PySem.W.Frag} {W : WX} {k : Nat} {pos p : Pos} {da db : Den}
/-- D is set at y by the block's turn -/
def PutD (H : Hp) (D : Addr) (y z : V) (H' : Hp) : Prop := ∃ kvs q b, y = V.ref b ∧ H b = some (.tup (List.map kV q)) ∧ H D = some (.dT kvs) ∧ kvs.length < sizeLine ∧ H' = upd H D (.dT (L2.putK kvs q z))
theorem put_in_block {pins : List (Addr × Obj)} {σ : St} {H H' : Hp} {s : Shared} {E : Value → Shared → Prop} {D : Addr} {y z : V} {u r : Value} {Q : Unit → Shared → Prop} (roomy : X.A.units + 1 < cLine) (inv : Inv X pins σ H s) (g : PutD H D y z H') (ru : RelV y u) (rr : RelV z r)
    (fin : ∀ s', Inv X pins σ H' s' → Q () s') : wpAny (model X.prog X.w) X.A (dictSet D u r) Q E s := by
  obtain ⟨kvs, q, b, rfl, hb, hD, hl, rfl⟩ := g
  obtain rfl : u = Value.ref b := ru
  obtain ⟨lenOk, notSys, es, paired, table⟩ := dt_of inv.hok hD
  have esOk : es.length ≤ sizeLine := by have := Paired.length paired; omega
  have putOk : (L2.putK kvs q z).length ≤ sizeLine := by have := length_putK kvs q z; omega
  refine wpAny_dictSet_heap (hsz := esOk) (show (tupleKind (mixKind X.prog X.w)).room X.A from Nat.lt_of_succ_lt roomy) (key_of inv.hok hb) table fun heap2 table2 same => fin _ ?_
  obtain ⟨ob, ents, ep, g1, g2, g3, g4, _, g5⟩ := table2
  have keptK : KT (upd H D (.dT (L2.putK kvs q z))) (L2.putK kvs q z) (storedH es q b r) := (paired.put q hb rr).keeps fun c ys ec => by
    rw [upd_ne fun e => by rw [e, hD] at ec; cases ec]
    exact ec
  exact d_write inv (by rw [hD]; trivial) same ⟨ob, g1⟩ ⟨putOk, notSys, _, keptK, ob, ents, ep, g1, g2, g3, g4, g5⟩
def tDcT (wi : TI) (g : TG) (tt : TT) (tk tv : TE) (vs : List Nat) : TE := fun σ H Q => wi σ H fun J H1 => ∀ D, H1 D = none → ∃ Z : Nat → Nat → Hp → Prop, (∃ m, Z 0 m (upd H1 D (.dT []))) ∧ ∀ i m H, Z i m H →
  (J.stop i H ∧ Q (.ref D) H) ∨ (J.go i H ∧ ∃ Nx : Hp → Prop, (∀ H', Nx H' → ∃ m', m' < m ∧ Z (i + 1) m' H') ∧ ∀ x H', J.yld i H x H' → g x (wipe σ vs) H' fun σ2 H2 => wipe σ2 vs = wipe σ vs ∧ tt σ2 H2 fun b H3 =>
    if b = true then tk σ2 H3 fun y H4 => tv σ2 H4 fun z H5 => ∃ H6, PutD H5 D y z H6 ∧ Nx H6 else Nx H3)
variable {kx vx tg iter : Expr} {ifs : List Expr} {scope : Scope} {own : List (Str × Nat)} {wi : TI} {g : TG} {tt : TT} {tk tv : TE}
theorem pe_dcT (roomy : X.A.units + 1 < cLine) (calm : X.calm = true) (nod : X.N.Nodup) (hi : PI X tg iter wi) (ok : BlkOk X.N X.env.scope scope own)
    (hg : ∀ (s : Shared) (H : Hp) (C : Addr) (cl : List (Str × Addr)) (fp : List Addr), PG (X.blk s H scope (compEnvC scope cl C X.env) fp) tg g)
    (ht : ∀ (s : Shared) (H : Hp) (C : Addr) (cl : List (Str × Addr)) (fp : List Addr), PTs (X.blk s H scope (compEnvC scope cl C X.env) fp) ifs tt)
    (hk : ∀ (s : Shared) (H : Hp) (C : Addr) (cl : List (Str × Addr)) (fp : List Addr), PE (X.blk s H scope (compEnvC scope cl C X.env) fp) kx tk)
    (hv : ∀ (s : Shared) (H : Hp) (C : Addr) (cl : List (Str × Addr)) (fp : List Addr), PE (X.blk s H scope (compEnvC scope cl C X.env) fp) vx tv) (hs : ∀ x, foldedSetIterable iter X.env x = pure x := by intro _; rfl) :
    PE X (.DictComp kx vx [⟨tg, iter, ifs, 0⟩] scope pos) (tDcT wi g tt tk tv (own.map (·.2))) := by
  refine ⟨fun pins s σ H Q inv top => ?_⟩
  rw [arm_eval_DictComp]
  have frees : ∀ y ∈ scope.names, y.2 = .free → ∃ c, X.env.cells.lookup y.1 = some c := fun y hy e => (ok.free y hy e).elim (fun z => inv.ok.has _ (.inl z)) fun z => inv.ok.has _ (.inr z)
  refine wpAny_comprehension_free rfl hs (closure_ok frees) ok.kind (fun y hy e => by rw [ok.uniq y hy, e]) (thn (hi.run pins s σ H _ inv top) fun xv s1 hx => thn hx fun itv s2 got => ?_)
  obtain ⟨it, foot, tn, J, Hi, rfl, inv2, turnJ, at0, footOk, rest⟩ := got
  refine wpAny_newObj_type (newEnv_comp ?_)
  obtain ⟨Z, ⟨m0, z0⟩, each⟩ := rest s2.heap.objs.size (inv2.hok.fresh (Nat.le_refl _))
  have fresh2 : Hi s2.heap.objs.size = none := inv2.hok.fresh (Nat.le_refl _)
  have inv3 : Inv X pins σ (upd Hi s2.heap.objs.size (.dT [])) { s2 with heap := s2.heap.push { cls := .type "dict", data := .dict #[] } } :=
    inv2.laid (t' := s2.toks) (fun b o e => Heap.get?_push_of_some _ e) (Nat.le_refl _) (dt_empty s2.heap inv2.big)
  have foot3 : ∀ b ∈ foot, FpOk X pins (upd Hi s2.heap.objs.size (.dT [])) b ∧ b < (s2.heap.push { cls := .type "dict", data := .dict #[] }).objs.size := fun b hb => by
    obtain ⟨o, e, _⟩ := turnJ.obj _ _ at0 b hb
    have below := Heap.lt_size e
    refine ⟨⟨?_, (footOk b hb).2⟩, by rw [Heap.size_push]; exact Nat.lt_succ_of_lt below⟩
    rw [upd_ne (Nat.ne_of_lt below)]
    exact (footOk b hb).1
  have at3 : tn 0 (s2.heap.push { cls := .type "dict", data := .dict #[] }) := turnJ.keep _ _ _ at0 fun b _ o e => Heap.get?_push_of_some _ e
  generalize eD : s2.heap.objs.size = D at z0 each fresh2 inv3 foot3 ⊢
  generalize eS : ({ s2 with heap := s2.heap.push { cls := .type "dict", data := .dict #[] } } : Shared) = s3 at inv3
  have eh : s3.heap = s2.heap.push { cls := .type "dict", data := .dict #[] } := by rw [← eS]
  rw [← eh] at foot3 at3
  generalize eH : upd Hi D (.dT []) = Hd at inv3 foot3 z0
  have inv4 := block_start inv3 ok nod foot3
  let cells := cellsFrom (s3.heap.objs.size + 1) scope.names (cloFrom X.env.cells scope.names [])
  have gT := (hg s3 Hd s3.heap.objs.size cells foot).run
  have tT := (ht s3 Hd s3.heap.objs.size cells foot).run
  have kT := (hk s3 Hd s3.heap.objs.size cells foot).run
  have vT := (hv s3 Hd s3.heap.objs.size cells foot).run
  show codeAny _ _ (.compStart (.DictComp kx vx [⟨tg, iter, ifs, 0⟩] scope pos) 0 (.ref it) (.ref D) (compEnvC scope cells s3.heap.objs.size X.env)) (compPost (model X.prog X.w) X.A X.xe none (EP X pins σ Q) (.ref D) s3.heap.objs.size) { s3 with heap := pushCells (s3.heap.push { cls := .type "dict", data := .dict #[] }) scope.names }
  have locC : (compEnvC scope cells s3.heap.objs.size X.env).locals = s3.heap.objs.size := rfl
  have inv4 : Inv (X.blk s3 Hd scope (compEnvC scope cells s3.heap.objs.size X.env) foot) [] (wipe σ (own.map (·.2))) Hd { s3 with heap := pushCells (s3.heap.push { cls := .type "dict", data := .dict #[] }) scope.names } := inv4
  have at4 : tn 0 ({ s3 with heap := pushCells (s3.heap.push { cls := .type "dict", data := .dict #[] }) scope.names } : Shared).heap := turnJ.keep _ _ _ at3 fun b _ o e => pushCells_keeps _ _ _ _ (Heap.get?_push_of_some _ e)
  generalize compEnvC scope cells s3.heap.objs.size X.env = ce at inv4 gT tT kT vT locC ⊢
  generalize ({ s3 with heap := pushCells (s3.heap.push { cls := .type "dict", data := .dict #[] }) scope.names } : Shared) = s4 at inv4 at4 ⊢
  have none3 : ∀ b ∈ foot, Hd b = none := fun b hb => (foot3 b hb).1.1
  have still : ∀ {τ : St} {G : Hp} {t : Shared}, Inv (X.blk s3 Hd scope ce foot) [] τ G t → (∀ b ∈ foot, G b = none) → ∀ b ∈ foot, FpOk (X.blk s3 Hd scope ce foot) [] G b := fun {τ G t} iv nn b hb =>
    ⟨nn b hb, (iv.ok.exf b hb).1, iv.ok.exfs b hb, .inl hb, fun x c e => (iv.ok.exf b hb).2 x c e, fun q hq => absurd (show q ∈ ([] : List (Addr × Obj)) ++ [] from hq) (by simp)⟩
  have walk : codeAny (model X.prog X.w) X.A (.compLoop (.DictComp kx vx [⟨tg, iter, ifs, 0⟩] scope pos) 0 (.ref it) (.ref D) ce) (compPost (model X.prog X.w) X.A X.xe none (EP X pins σ Q) (.ref D) s3.heap.objs.size) s4 := by
    let St : Nat → Shared → Prop := fun n t => ∃ i G, Inv (X.blk s3 Hd scope ce foot) [] (wipe σ (own.map (·.2))) G t ∧ tn i t.heap ∧ (∀ b ∈ foot, G b = none) ∧ Z i n G
    refine compLoop_anyD St ?_ m0 ⟨0, Hd, inv4, at4, none3, z0⟩
    rintro n t ⟨i, G, iv, here, nn, zz⟩
    rcases each i n G zz with ⟨halt, done⟩ | ⟨go, Nx, less, step⟩
    · refine thnF (turnJ.done (X.blk s3 Hd scope ce foot) rfl rfl rfl calm i [] t _ G (fun _ _ => False) iv (still iv nn) here halt) fun r t2 ⟨hr, iv2⟩ => ?_
      subst hr
      have back : Inv X pins σ G t2 := inv3.call' (ch := foot) iv2.os iv2.base iv2.hok iv2.bare fun b hb => ⟨(foot3 b hb).1.2.2.2.1, (foot3 b hb).1.2.1, (foot3 b hb).1.2.2.2.2.1, (foot3 b hb).1.2.2.2.2.2⟩
      have unused : G ce.locals = none := iv2.free
      rw [locC] at unused
      obtain ⟨m, ns, _⟩ := iv2.loc
      have ns : t2.heap.Ns ce.locals m := ns
      rw [locC] at ns
      obtain ⟨f0, f1, f2, f3, f4, f5⟩ := inv3.fpOk (Nat.le_refl _) unused
      exact ⟨m, ns, fun h2 sb => ⟨.ref D, G, back.turned (t' := t2.toks) (fun b o hb e => (sb.2 b hb).trans e) f0 f1 f3 f4 f5, rfl, done⟩⟩
    · refine thnF (turnJ.item (X.blk s3 Hd scope ce foot) rfl rfl rfl calm i [] t _ G (fun _ _ => False) iv (still iv nn) here go) fun r t2 ⟨u, hr, got⟩ => ?_
      subst hr
      refine thnF got fun _ t3 ⟨x, G3, iv3, rx, yx, here3, nn3⟩ => ?_
      refine thnF (gT _ t3 _ G3 x u _ (iv3.pinned (still iv3 nn3) (turnJ.obj _ _ here3)) rx (step x G3 yx)) fun _ t4 ⟨τ, G4, iv4, same, q4⟩ => ?_
      refine thnF (tT _ t4 τ G4 _ iv4 q4) fun b t5 ⟨G5, iv5, q5⟩ => ?_
      have turned : ∀ {t' : Shared} {G' : Hp}, Inv (X.blk s3 Hd scope ce foot) ([] ++ pinsAt foot t3.heap) τ G' t' → Nx G' → ∃ m, m < n ∧ St m t' := fun {t' G'} iv' nx => by
        obtain ⟨m, lt, zz'⟩ := less G' nx
        have stay : ∀ b ∈ foot, ∀ o, t3.heap.get? b = some o → t'.heap.get? b = some o ∧ G' b = none := fun b hb o e =>
          have z := iv'.pin (b, o) (List.mem_append_right _ (List.mem_append_right _ (mem_pinsAt hb e)))
          ⟨z.1, z.2.1⟩
        refine ⟨m, lt, i + 1, G', (iv'.unpinned (pins := [])).weak (by rw [← same, wipe_length]) (fun j v e => ?_), turnJ.keep _ _ _ here3 fun b hb o e => (stay b hb o e).1, fun b hb => ?_, zz'⟩
        · rw [← same] at e
          exact (wipe_some e).1
        · obtain ⟨o, e, _⟩ := turnJ.obj _ _ here3 b hb
          exact (stay b hb o e).2
      cases b with
      | false =>
        simp only [Bool.false_eq_true, if_false] at q5 ⊢
        exact turned iv5 q5
      | true =>
        simp only [if_true] at q5 ⊢
        refine thnF (kT _ t5 τ G5 _ iv5 q5) fun z t6 ⟨y, G6, iv6, ry, q6⟩ => ?_
        refine thnF (vT _ t6 τ G6 _ iv6 q6) fun z2 t7 ⟨y2, G7, iv7, ry2, G8, put, nx⟩ => ?_
        exact put_in_block (X := X.blk s3 Hd scope ce foot) roomy iv7 put ry ry2 fun t8 iv8 => turned iv8 nx
  exact codeAny_compStart_dict walk (turnJ.self X.A 0 _ _ _ at4 walk)
end
end PL

set_option Elab.async false
set_option linter.all false
set_option maxRecDepth 100000
set_option maxHeartbeats 4000000
namespace PL
open PySem PySem.Spec L2
set_option autoImplicit false
/-! ### {k: v for ..} as a denotation -/
def dcLoop (own : List Nat) (tgt : DenG) (test : DenB) (ke ve : Den) : List PV → List PV → List PV → Env → Option ((List PV × List PV) × Env)
  | [], ks, vs, ρ => some ((ks, vs), ρ)
  | x :: xs, ks, vs, ρ => match tgt x ρ with
    | none => none
    | some ρ1 => match test ρ1 with
      | .ok true ρ2 => (match ke ρ2 with
        | .ok q ρ3 => (match ve ρ3 with
          | .ok e ρ4 => if (noOw ρ4 && kGood true q && decide (ks.length < 100000)) = true then dcLoop own tgt test ke ve xs (dPutQ ks vs q e).1 (dPutQ ks vs q e).2 (wipeE own ρ4) else none
          | _ => none)
        | _ => none)
      | .ok false ρ2 => if noOw ρ2 = true then dcLoop own tgt test ke ve xs ks vs (wipeE own ρ2) else none
      | _ => none
def dDc (own : List Nat) (di : DenL) (tgt : DenG) (test : DenB) (ke ve : Den) : Den := fun ρ => (di ρ).bind fun xs ρ1 => match dcLoop own tgt test ke ve xs [] [] (lockE own ρ1) with
  | some (kv, ρ2) => .ok (.dic true kv.1 kv.2) (backE own ρ1 ρ2)
  | none => .bad
section
variable {K : PySem.W.Frag} {mg : Str → Option Value} {W : WX}
theorem tup_key {S : Hp} {q : PV} {v : V} (r : Rep K S q v) (h : kGood true q = true) : ∃ kk b, q = .tup (List.map keyPV kk) ∧ v = .ref b ∧ S b = some (.tup (List.map kV kk)) := by
  obtain ⟨hg1, hg2⟩ := (Bool.and_eq_true _ _).mp h
  cases r with
  | @tup b us qs g1 g2 =>
    have hk : ((keys? qs).map (Sum.inr : List Key → KK)).isSome = true := hg1
    cases hks : keys? qs with
    | none => rw [hks] at hk; cases hk
    | some kk =>
      have eq := keys?_some hks
      subst eq
      rw [g2.keyVs] at g1
      exact ⟨kk, b, rfl, rfl, g1⟩
  | int i => cases hg2
  | str z => cases hg2
  | _ => cases hg1
theorem dc_inner {g : TG} {dg : DenG} {tt : TT} {dt : DenB} {tk tv : TE} {dk dv : Den} {own : List Nat} {H₀ S₀ : Hp} {M : Addr → Prop} {S1 H1 : Hp} {σ : St} {ρ1 : Env} {Q : VK} {xs : List PV} {J : It} (hg : GOk K g dg) (hgw : TgW own g) (hgm : GMono g) (ht : TOk K mg (fun _ _ _ _ => False) tt dt) (hk : EOk K mg (fun _ _ _ _ => False) tk dk) (hv : EOk K mg (fun _ _ _ _ => False) tv dv) (a1 : Abs K H₀ S₀ M S1 σ H1 ρ1) (rj : ItR K S1 H1 xs J)
    (hp : Post K mg W (rF K) H₀ S₀ M σ (match dcLoop own dg dt dk dv xs [] [] (lockE own ρ1) with
      | some (kv, ρ2) => .ok (.dic true kv.1 kv.2) (backE own ρ1 ρ2)
      | none => .bad) Q) : ∀ D, H1 D = none → ∃ Z : Nat → Nat → Hp → Prop, (∃ m, Z 0 m (upd H1 D (.dT []))) ∧ ∀ i m H, Z i m H →
  (J.stop i H ∧ Q (.ref D) H) ∨ (J.go i H ∧ ∃ Nx : Hp → Prop, (∀ H', Nx H' → ∃ m', m' < m ∧ Z (i + 1) m' H') ∧ ∀ x H', J.yld i H x H' → g x (wipe σ own) H' fun σ2 H2 => wipe σ2 own = wipe σ own ∧ tt σ2 H2 fun b H3 =>
    if b = true then tk σ2 H3 fun y H4 => tv σ2 H4 fun z H5 => ∃ H6, PutD H5 D y z H6 ∧ Nx H6 else Nx H3) := by
  intro D hD
  cases eL : dcLoop own dg dt dk dv xs [] [] (lockE own ρ1) with
  | none => simp only [eL] at hp; exact hp.elim
  | some yr =>
    obtain ⟨kv, ρ2⟩ := yr
    simp only [eL] at hp
    have hsz : (100000 : Nat) < sizeLine := by rw [sizeLine_eq]; decide
    have nL : ¬ Lent σ ρ1 D := fun ⟨i, s, p, h1, h2, h3⟩ => by
      obtain ⟨c, o, k1, _, _, _, k5, _⟩ := a1.own i s p h1 h2
      rw [h3] at k1
      cases k1
      rw [hD] at k5; cases k5
    have nOwn : ∀ {S' : Hp} {σ' : St} {H' : Hp} {ρ' : Env}, Abs K H1 S1 (Lent σ ρ1) S' σ' H' ρ' → ∀ (i : Nat) s p, ρ'[i]? = some s → s.own? = some p → noOw ρ' = true → σ'[i]? ≠ some (some (.ref D)) := fun {S' σ' H' ρ'} a i s p e es no z => by
      obtain ⟨c, o, k1, k2, k3, _⟩ := a.own i s p e es
      rw [z] at k1
      cases k1
      cases s with
      | io q => cases es; exact nL (k3 rfl)
      | ow q => exact noOw_get no e
      | un => cases es
      | sh q => cases es
    let Inv : Nat → Hp → Prop := fun i H => i ≤ xs.length ∧ ∃ S ρ kvs ks vs, Abs K H1 S1 (Lent σ ρ1) S (wipe σ own) H ρ ∧ noOw ρ = true ∧ H D = some (.dT kvs) ∧ S D = none ∧ OwnO K S (.dic true ks vs) (.dT kvs) ∧ dcLoop own dg dt dk dv (xs.drop i) ks vs ρ = some (kv, ρ2)
    refine ⟨fun i m H => m = xs.length - i ∧ Inv i H, ⟨xs.length, by simp, Nat.zero_le _, S1, lockE own ρ1, [], [], [], (a1.enter own).step (Step.hid a1.sub hD), noOw_lockE _ _, upd_same, Same.free a1.sub hD, ⟨rfl, .nil⟩, by rw [List.drop_zero]; exact eL⟩, ?_⟩
    rintro i m H' ⟨rfl, hle, S', ρ', kvs, ks, vs, a', no', hD', sD', rp, eL'⟩
    obtain ⟨js, jg⟩ := rj i S' H' a'.base a'.sub
    by_cases hlt : i < xs.length
    · have ex : xs[i]? = some xs[i] := List.getElem?_eq_getElem hlt
      obtain ⟨j1, j2⟩ := jg _ ex
      rw [List.drop_eq_getElem_cons hlt] at eL'
      unfold dcLoop at eL'
      cases e1 : dg xs[i] ρ' with
      | none => simp only [e1] at eL'; cases eL'
      | some ρa =>
        simp only [e1] at eL'
        refine .inr ⟨j1, fun H => Inv (i + 1) H, fun H2 hN => ⟨xs.length - (i + 1), by omega, rfl, hN⟩, fun x H2 y => ?_⟩
        obtain ⟨S2, st, rx⟩ := j2 x H2 y
        have aS := a'.step st
        have aT : Abs K H2 S2 (Lent σ ρ1) S2 (wipe σ own) H2 ρ' := aS.here no'
        have D2 : H2 D = some (.dT kvs) := st.h _ _ hD'
        have sD2 : S2 D = none := by
          cases q : S2 D with
          | none => rfl
          | some o =>
            rcases st.new D o q with z | z | ⟨us, z⟩
            · rw [sD'] at z; cases z
            · rw [hD'] at z; cases z
            · subst z
              have z := (aS.sub _ _ q).symm.trans D2
              cases z
        have hg1 := hg H2 S2 (Lent σ ρ1) S2 (wipe σ own) H2 ρ' ρa xs[i] x (fun σ2 H2' => H2' = H2 ∧ Abs K H2 S2 (Lent σ ρ1) S2 σ2 H2 ρa) aT rx e1 fun σ2 a2 => ⟨rfl, a2⟩
        have hg2 := hgw x (wipe σ own) H2 _ hg1
        have body : ∀ σ2 H2', (wipe σ2 own = wipe (wipe σ own) own ∧ H2' = H2 ∧ Abs K H2 S2 (Lent σ ρ1) S2 σ2 H2 ρa) → (wipe σ2 own = wipe σ own ∧ tt σ2 H2' fun b H3 =>
            if b = true then tk σ2 H3 fun y H4 => tv σ2 H4 fun z H5 => ∃ H6, PutD H5 D y z H6 ∧ Inv (i + 1) H6 else Inv (i + 1) H3) := by
          rintro σ2 H2' ⟨hw, rfl, a2⟩
          rw [wipe_wipe] at hw
          refine ⟨hw, ?_⟩
          have bk : ∀ {S3 H3 : Hp} {ρ3 : Env}, Abs K H2' S2 (Lent σ ρ1) S3 σ2 H3 ρ3 → noOw ρ3 = true → Abs K H1 S1 (Lent σ ρ1) S3 (wipe σ own) H3 (wipeE own ρ3) := fun {S3 H3 ρ3} a3 no3 => by
            refine (aS.along a3 no3).forget ?_ fun j s e n => ?_
            · rw [wipeE_length, a3.len, ← wipe_len σ2 own, hw]
            · obtain ⟨h1, h2⟩ := wipeE_get e n
              refine ⟨h2, ?_⟩
              rw [← hw, getElem?_wipe h1]
          have kD : ∀ {S3 H3 : Hp} {ρ3 : Env}, Abs K H2' S2 (Lent σ ρ1) S3 σ2 H3 ρ3 → H3 D = some (.dT kvs) ∧ S3 D = none := fun {S3 H3 ρ3} a3 => by
            refine ⟨a3.keep D _ D2 nL, ?_⟩
            cases q : S3 D with
            | none => rfl
            | some o =>
              rcases a3.grow D o q with z | z | ⟨us, z⟩
              · rw [sD2] at z; cases z
              · rw [D2] at z; cases z
              · subst z
                have z := (a3.sub _ _ q).symm.trans (a3.keep D _ D2 nL)
                cases z
          refine ht H2' S2 (Lent σ ρ1) S2 σ2 H2' ρa _ a2 ?_
          cases e2 : dt ρa with
          | bad => simp only [e2] at eL'; cases eL'
          | exc x ρb => simp only [e2] at eL'; cases eL'
          | ok b ρb =>
            intro b' S3 H3 a3 rb
            cases rb
            simp only [e2] at eL'
            cases b with
            | false =>
              simp only [Bool.false_eq_true, if_false]
              by_cases no3 : noOw ρb = true
              · simp only [if_pos no3] at eL'
                obtain ⟨d1, d2⟩ := kD a3
                exact ⟨hlt, S3, wipeE own ρb, kvs, ks, vs, bk a3 no3, noOw_wipeE _ _ no3, d1, d2, rp.up (st.s.trans a3.base), eL'⟩
              · simp only [if_neg no3] at eL'; cases eL'
            | true =>
              simp only [if_true]
              have a3' : Abs K H2' S3 (Lent σ ρ1) S3 σ2 H3 ρb := a3.rebase
              refine hk H2' S3 (Lent σ ρ1) S3 σ2 H3 ρb _ a3' ?_
              cases e3 : dk ρb with
              | bad => simp only [e3] at eL'; cases eL'
              | exc x ρc => simp only [e3] at eL'; cases eL'
              | ok q ρc =>
                intro y4 S4 H4 a4' rq
                have a4 := a3.unbase a4'
                simp only [e3] at eL'
                refine hv H2' S4 (Lent σ ρ1) S4 σ2 H4 ρc _ a4.rebase ?_
                cases e4 : dv ρc with
                | bad => simp only [e4] at eL'; cases eL'
                | exc x ρd => simp only [e4] at eL'; cases eL'
                | ok w ρd =>
                  intro z5 S5 H5 a5' rw5
                  have a5 := a4.unbase a5'
                  simp only [e4] at eL'
                  by_cases hz : (noOw ρd && kGood true q && decide (ks.length < 100000)) = true
                  · simp only [if_pos hz] at eL'
                    simp only [Bool.and_eq_true, decide_eq_true_eq] at hz
                    obtain ⟨⟨no5, kg⟩, hl⟩ := hz
                    obtain ⟨d1, d2⟩ := kD a5
                    obtain ⟨kk, b, rfl, rfl, hb⟩ := tup_key (S := S4) rq kg
                    have rp5 := rp.up (st.s.trans a5.base)
                    have hl2 : kvs.length < sizeLine := by
                      have : ks = kvs.map (fun p => PV.tup (p.1.map keyPV)) := rp.1
                      rw [this, List.length_map] at hl
                      omega
                    refine ⟨_, ⟨kvs, kk, b, rfl, a5.sub _ _ (a5'.base _ _ hb), d1, hl2, rfl⟩, hlt, S5, wipeE own ρd, L2.putK kvs kk z5, _, _, (bk a5 no5).other hD d2 fun j s p e es => nOwn (bk a5 no5) j s p e es (noOw_wipeE _ _ no5), noOw_wipeE _ _ no5, upd_same, d2, OwnO.putT rp5 rw5, eL'⟩
                  · simp only [if_neg hz] at eL'; cases eL'
        exact hgm x (wipe σ own) H2 _ _ body hg2
    · have ei : i = xs.length := by omega
      subst ei
      rw [List.drop_length] at eL'
      unfold dcLoop at eL'
      cases eL'
      refine .inl ⟨js (Nat.le_refl _), hp (.ref D) S' H' (a1.exit a') ⟨D, .dT kvs, rfl, a1.none0 hD, sD', hD', rp, fun j s q ej es z => ?_⟩⟩
      have a2 := a1.exit a'
      obtain ⟨c, o, k1, k2, k3, k4, k5, k6⟩ := a2.own j s q ej es
      rcases backE_get ej (by intro w; subst w; cases es) with ⟨_, q', hq, _⟩ | ⟨h1, t, t', h2, h3, h4⟩
      · subst hq; cases es
      · have ht : ∃ p, t'.own? = some p := by
          cases t <;> cases t' <;> simp [Sl.back] at h4 <;> subst h4 <;> first | (cases es; done) | exact ⟨_, rfl⟩
        obtain ⟨p, hp'⟩ := ht
        exact nOwn a' j t' p h3 hp' no' (by rw [getElem?_wipe h1]; exact z)
theorem fo_dc {wi : TI} {di : DenL} {g : TG} {dg : DenG} {tt : TT} {dt : DenB} {tk tv : TE} {dk dv : Den} {own : List Nat} (hi : IOk K mg W wi di) (hg : GOk K g dg) (hgw : TgW own g) (hgm : GMono g) (ht : TOk K mg (fun _ _ _ _ => False) tt dt) (hk : EOk K mg (fun _ _ _ _ => False) tk dk) (hv : EOk K mg (fun _ _ _ _ => False) tv dv) :
    FOk K mg W (tDcT wi g tt tk tv own) (dDc own di dg dt dk dv) := fun H₀ S₀ M S σ H ρ Q ab hp =>
  hi.bind (Rl' := rF K) ab hp fun xs ρ1 J S1 H1 _ a1 _ rj hp => dc_inner hg hgw hgm ht hk hv a1 rj hp
end
section
variable {X : Cx} {W : WX} {k : Nat} {pos p p2 : Pos} {e a : Expr} {da db : Den} {x : Str} {dl : DenL}
theorem df_dc {kx vx tg iter : Expr} {ifs : List Expr} {scope : Scope} {g : TG} {dg : DenG} {dt : DenB} {dk dv : Den} (own : List (Str × Nat)) (c : Ctx X W k) (hi : DI X W tg iter dl) (hl : LG X.K (own.map (·.2)) g dg)
    (hg : ∀ (s : Shared) (H : Hp) (C : Addr) (cl : List (Str × Addr)) (fp : List Addr), DG (X.blk s H scope (PySem.compEnvC scope cl C X.env) fp) tg g dg) (ht : ∀ (s : Shared) (H : Hp) (C : Addr) (cl : List (Str × Addr)) (fp : List Addr), DTs (X.blk s H scope (PySem.compEnvC scope cl C X.env) fp) (fun _ _ _ _ => False) ifs dt)
    (hk : ∀ (s : Shared) (H : Hp) (C : Addr) (cl : List (Str × Addr)) (fp : List Addr), DE (X.blk s H scope (PySem.compEnvC scope cl C X.env) fp) (fun _ _ _ _ => False) kx dk) (hv : ∀ (s : Shared) (H : Hp) (C : Addr) (cl : List (Str × Addr)) (fp : List Addr), DE (X.blk s H scope (PySem.compEnvC scope cl C X.env) fp) (fun _ _ _ _ => False) vx dv)
    (ok : BlkOk X.N X.env.scope scope own := by exact blkOk_by (by decide +kernel)) (hs : ∀ z, foldedSetIterable iter X.env z = pure z := by intro _; rfl) :
    DF X W (.DictComp kx vx [⟨tg, iter, ifs, 0⟩] scope pos) (dDc (own.map (·.2)) dl dg dt dk dv) :=
  DF.of (pe_dcT (by have := c.hu; omega) c.calm c.nd hi ok (fun s H C cl fp => (hg s H C cl fp).pg) ht hk hv hs) (fo_dc canon_ok hl.ok hl.w hl.mono canon_ok canon_ok canon_ok)
@[simp] theorem ap_dDc {own : List Nat} {di : DenL} {tgt : DenG} {test : DenB} {ρ : Env} : dDc own di tgt test da db ρ = (di ρ).bind fun xs ρ1 => match dcLoop own tgt test da db xs [] [] (lockE own ρ1) with
  | some (kv, ρ2) => .ok (.dic true kv.1 kv.2) (backE own ρ1 ρ2)
  | none => .bad := id rfl
end
end PL

set_option Elab.async false
set_option linter.all false
set_option maxRecDepth 100000
set_option maxHeartbeats 4000000
namespace PL
open PySem PySem.Spec L2
set_option autoImplicit false
/-! ### try: .. except X as n: return (tag, n.field) -/
abbrev tTag (t : Str) (te : TE) : TE := tTup (tCons (tC (.str t)) (tCons te tNil))
def tagOf : List (Str × Str) → Str → Option Str
  | [], _ => none
  | y :: r, x => if x = y.1 then some y.2 else tagOf r x
def sTryT (cs : List (Str × Str)) (fld : Str) (i : Nat) (body : DenS) : DenS := fun ρ => match body ρ with
  | .exc x ρ1 => (match tagOf cs x.cls with
    | some t => if (decide (x.fld = fld) && decide (i < ρ1.length)) = true then .rt (.tup [.str t, x.val]) (ρ1.set i .un) else .bad
    | none => .bad)
  | r => r
theorem clauseT {X : Cx} {n x fld t : Str} {i j jj : Nat} {q q' p1 p2 p3 p4 p5 : Pos} {hs : List ExceptHandler} {cl : List Clause} (E : Ec X.prog X.w X.K X.mg X.base x fld) (h : Clauses X n hs cl) (hg : Gl X x := by rfl) (hN : X.N[i]? = some n := by rfl) (hv : Vis X.env.scope n := by first | exact Or.inl rfl | exact Or.inr (Or.inl rfl) | exact Or.inr (Or.inr rfl))
    (hb : attributeBase (.Name n p1) fld X.env (eval (.Name n p1) X.env) = eval (.Name n p1) X.env := by rfl) (hd : (n == ("__debug__" : Str)) = false := by decide) (hcd : (n == ("__classdict__" : Str)) = false := by decide) (hdb : (x == ("__debug__" : Str)) = false := by decide)
    (na : starEach [.Attribute (.Name n p1) fld p2] X.env = (false, eval (.Attribute (.Name n p1) fld p2) X.env) :: starEach [] X.env := by rfl) (nb : starEach [.Constant (.str t) j p5, .Attribute (.Name n p1) fld p2] X.env = (false, eval (.Constant (.str t) j p5) X.env) :: starEach [.Attribute (.Name n p1) fld p2] X.env := by rfl) :
    Clauses X n (.ExceptHandler (some (.Name x q)) (some n) [.Return (some (.Tuple [.Constant (.str t) j p5, .Attribute (.Name n p1) fld p2] jj p4)) p3] q' :: hs) ((.ref (He.ga X.K x), fun a cls d => tRet (tTag t (tXf a cls d (He.ga X.K x) fld (tVar i)))) :: cl) :=
  .cons ⟨hg, hdb, .inl E.at_⟩ (fun a ob cls d pn hz hf => pss_one (ps_ret (pe_tup (pa_cons pe_str (pa_cons (pe_xf E.k.xf E.k.fld hz hf (pe_var hN hv hd hcd) hb) pa_nil na) nb)))) h
theorem clause_inT {K : PySem.W.Frag} {mg : Str → Option Value} {L : List Str} {out : WX} {D : Ends} {i : Nat} {x : Exn} {S0 : Hp} {cls : Value} {d : Option Addr} {σ : L2.St} {G : Hp} {fld t : Str} (ex : exmB K L = true) (hmg : ∀ y ∈ L, mg y = some (.ref (He.ga K y))) (hx : x.cls ∈ L) (re : ExcRep K mg S0 G x cls d) (hf : x.fld = fld) (hi : i < σ.length) (hD : ∀ v, Rep K S0 x.val v → ∀ c, G c = none → D.rt (.ref c) (upd G c (.tup [.str t, v]))) :
    ∀ (cs : List (Str × Str)), (∀ y ∈ cs, y.1 ∈ L) → tagOf cs x.cls = some t → wCl K out D i (cs.map fun y => (.ref (He.ga K y.1), fun a cls d => tRet (tTag y.2 (tXf a cls d (He.ga K y.1) fld (tVar i))))) cls d σ G := by
  obtain ⟨C, dx, v, h1, h2, h3, h4, h5⟩ := re
  have eC : C = He.ga K x.cls := by
    have z := hmg _ hx
    rw [h1] at z
    cases z
    rfl
  subst eC
  subst h2
  intro cs
  induction cs with
  | nil => intro _ h; cases h
  | cons y r ih =>
    intro hs h
    unfold tagOf at h
    refine ⟨decide (x.cls = y.1), exmB_ok ex hx (hs y List.mem_cons_self), fun hit a _ => ?_, fun hit => ?_⟩
    · have e : x.cls = y.1 := of_decide_eq_true hit
      rw [if_pos e] at h
      cases h
      refine ⟨.ref a, List.getElem?_set_self hi, rfl, by rw [e], dx, [(x.fld, v)], v, h3, h4, ?_, (by rw [sizeLine_eq]; simp), fun c n => hD v h5 c n⟩
      rw [← hf]
      simp [List.lookup]
    · have ne : x.cls ≠ y.1 := of_decide_eq_false hit
      rw [if_neg ne] at h
      exact ih (fun z hz => hs z (List.mem_cons_of_mem _ hz)) h
section
variable {X : Cx} {W : WX} {k : Nat}
theorem ds_tryT {body : List Stmt} {h₀ : ExceptHandler} {hs : List ExceptHandler} {pos : Pos} {n fld : Str} {d : DenS} (L : List Str) (cs : List (Str × Str)) (i : Nat) (ex : exmB X.K L = true) (hmg : ∀ y ∈ L, X.mg y = some (.ref (He.ga X.K y))) (c : Ctx X W k)
    (hb : ∀ (W' : WX) (pn : List (Addr × Obj)) (xe : Value → Shared → Prop), Ctx (X.tr pn xe) W' k → Po (X.tr pn xe) → DSs (X.tr pn xe) W' false body d) (hcl : Clauses X n (h₀ :: hs) (cs.map fun y => (.ref (He.ga X.K y.1), fun a cls d => tRet (tTag y.2 (tXf a cls d (He.ga X.K y.1) fld (tVar i))))))
    (hsub : ∀ y ∈ cs, y.1 ∈ L := by decide) (hi : X.N[i]? = some n := by rfl) (hln : X.env.kindOf n = some .local := by rfl) (hstk : X.stack = X.env :: X.outer := by rfl) (hfr : X.env.frame = some X.env.locals := by rfl) :
    DS X W false (.Try body (h₀ :: hs) [] [] pos) (sTryT cs fld i d) := by
  have P := ps_tryN (pos := pos) (out := W) c.nd hi hln hstk hfr c.tk (tb := fun W' => canonS X.K X.mg W' false d) (fun W' pn xe tk po => hb W' pn xe ⟨c.calm, c.nd, c.room, tk⟩ po) hcl
  refine ⟨fun pins s σ H D I q => P.run pins s σ H D I ?_⟩
  obtain ⟨H₀, S₀, M, S, ρ, ab, hp⟩ := q
  refine ⟨H₀, S₀, M, S, ρ, ab, ?_⟩
  unfold sTryT at hp
  cases e : d ρ with
  | bad => rw [e] at hp; exact hp
  | nx ρ1 => rw [e] at hp; exact hp
  | bk ρ1 => rw [e] at hp; exact hp
  | ct ρ1 => rw [e] at hp; exact hp
  | rt p ρ1 => rw [e] at hp; exact hp
  | exc x ρ1 =>
    simp only [e] at hp
    cases ht : tagOf cs x.cls with
    | none => simp only [ht] at hp; exact hp.elim
    | some t =>
      simp only [ht] at hp
      by_cases hc : (decide (x.fld = fld) && decide (i < ρ1.length)) = true
      · rw [if_pos hc] at hp
        obtain ⟨hc2, hc3⟩ := (Bool.and_eq_true _ _).mp hc
        have hm : x.cls ∈ L := by
          have : ∀ l : List (Str × Str), tagOf l x.cls = some t → ∃ y ∈ l, y.1 = x.cls := by
            intro l
            induction l with
            | nil => intro h; cases h
            | cons y r ih =>
              intro h
              unfold tagOf at h
              by_cases hy : x.cls = y.1
              · exact ⟨y, by simp, hy.symm⟩
              · rw [if_neg hy] at h
                obtain ⟨z, h1, h2⟩ := ih h
                exact ⟨z, List.mem_cons_of_mem _ h1, h2⟩
          obtain ⟨y, h1, h2⟩ := this cs ht
          rw [← h2]
          exact hsub y h1
        intro cls dd S' σ' H' a1 re
        have hlt : i < σ'.length := by rw [← a1.len]; exact of_decide_eq_true hc3
        refine clause_inT ex hmg hm re (of_decide_eq_true hc2) hlt (fun v rv b hb2 => ?_) cs hsub ht
        have a2 : Abs X.K H₀ S₀ M S' σ' H' (ρ1.set i .un) := a1.forget (by rw [List.length_set]; exact a1.len) fun j s ej hn => by
          by_cases hj : j = i
          · subst hj
            rw [List.getElem?_set_self (by rw [a1.len]; exact hlt)] at ej
            cases ej
            exact absurd rfl hn
          · rw [List.getElem?_set_ne (Ne.symm hj)] at ej
            exact ⟨ej, rfl⟩
        have up := same_upd (o := .tup [.str t, v]) (Same.free a2.sub hb2)
        exact hp (.ref b) _ σ' _ (a2.step (Step.new1 a2.sub hb2)) (.tup upd_same (.cons (.str t) (.cons (rv.mono up) .nil)))
      · rw [if_neg hc] at hp
        exact hp.elim
end
end PL

set_option Elab.async false
set_option linter.all false
set_option maxRecDepth 100000
set_option maxHeartbeats 4000000
namespace PL
open PySem PySem.Spec L2
set_option autoImplicit false
/-! ### y = [.. for .. in a dict] -/
section
variable {X : Cx} {W : WX} {fr : Bool} {k : Nat} {pos p p2 p3 : Pos} {x y : Str}
theorem ps_lockA {st : Stmt} {t : TE} {i : Nat} (h : PS X st (tAsg t (L2.gName i))) : PS X st (tAsg (tLockR t) (L2.gName i)) := ⟨fun pins s σ H D I q => by
  rcases q with q | q
  · exact (ps_lock h).run pins s σ H D I q
  · exact h.run pins s σ H D I q⟩
theorem ds_setLcD {elt tg : Expr} {ifs : List Expr} {scope : Scope} {g : TG} {dg : DenG} {dt : DenB} {de : Den} (j i : Nat) (own : List (Str × Nat)) (c : Ctx X W k) (hv : PE X (.Name x p3) (tVar i)) (hl : LG X.K (own.map (·.2)) g dg)
    (hg : ∀ (s : Shared) (H : Hp) (C : Addr) (cl : List (Str × Addr)) (fp : List Addr), DG (X.blk s H scope (PySem.compEnvC scope cl C X.env) fp) tg g dg) (ht : ∀ (s : Shared) (H : Hp) (C : Addr) (cl : List (Str × Addr)) (fp : List Addr), DTs (X.blk s H scope (PySem.compEnvC scope cl C X.env) fp) (fun _ _ _ _ => False) ifs dt)
    (he : ∀ (s : Shared) (H : Hp) (C : Addr) (cl : List (Str × Addr)) (fp : List Addr), DE (X.blk s H scope (PySem.compEnvC scope cl C X.env) fp) (fun _ _ _ _ => False) elt de) (hy : X.N[j]? = some y := by rfl) (hyl : X.env.scope.names.lookup y = some .local := by rfl)
    (hsw : swapsWith (.ListComp elt [⟨tg, .Name x p3, ifs, 0⟩] scope p2) (some (.Name y p)) pos.line X.env = pure true := by exact sw_true rfl rfl rfl (by decide +kernel)) (ok : BlkOk X.N X.env.scope scope own := by exact blkOk_by (by decide +kernel)) (hs : ∀ z, foldedSetIterable (.Name x p3) X.env z = pure z := by intro _; rfl) :
    DS X W fr (.Assign [.Name y p] (.ListComp elt [⟨tg, .Name x p3, ifs, 0⟩] scope p2) pos) (sSet j (dLcD (own.map (·.2)) i dg dt de)) :=
  DS.of (ps_lockA (ps_setLc c.calm c.nd hy hyl hsw (pi_keys hv) ok (fun s H C cl fp => (hg s H C cl fp).pg) ht he hs)) (so_set (fo_lcD hl.ok hl.w hl.mono canon_ok canon_ok).shared)
theorem ds_setLcDF {elt tg : Expr} {ifs : List Expr} {scope : Scope} {g : TG} {dg : DenG} {dt : DenB} {de : Den} (j i : Nat) (own : List (Str × Nat)) (c : Ctx X W k) (hv : PE X (.Name x p3) (tVar i)) (hl : LG X.K (own.map (·.2)) g dg)
    (hg : ∀ (s : Shared) (H : Hp) (C : Addr) (cl : List (Str × Addr)) (fp : List Addr), DG (X.blk s H scope (PySem.compEnvC scope cl C X.env) fp) tg g dg) (ht : ∀ (s : Shared) (H : Hp) (C : Addr) (cl : List (Str × Addr)) (fp : List Addr), DTs (X.blk s H scope (PySem.compEnvC scope cl C X.env) fp) (fun _ _ _ _ => False) ifs dt)
    (he : ∀ (s : Shared) (H : Hp) (C : Addr) (cl : List (Str × Addr)) (fp : List Addr), DE (X.blk s H scope (PySem.compEnvC scope cl C X.env) fp) (fun _ _ _ _ => False) elt de) (hy : X.N[j]? = some y := by rfl) (hyl : X.env.scope.names.lookup y = some .local := by rfl)
    (hsw : swapsWith (.ListComp elt [⟨tg, .Name x p3, ifs, 0⟩] scope p2) (some (.Name y p)) pos.line X.env = pure true := by exact sw_true rfl rfl rfl (by decide +kernel)) (ok : BlkOk X.N X.env.scope scope own := by exact blkOk_by (by decide +kernel)) (hs : ∀ z, foldedSetIterable (.Name x p3) X.env z = pure z := by intro _; rfl) :
    DS X W fr (.Assign [.Name y p] (.ListComp elt [⟨tg, .Name x p3, ifs, 0⟩] scope p2) pos) (sSetF j (dLcD (own.map (·.2)) i dg dt de)) :=
  DS.of (ps_lockA (ps_setLc c.calm c.nd hy hyl hsw (pi_keys hv) ok (fun s H C cl fp => (hg s H C cl fp).pg) ht he hs)) (so_setF (fo_lcD hl.ok hl.w hl.mono canon_ok canon_ok))
end
end PL

set_option Elab.async false
set_option linter.all false
set_option maxRecDepth 100000
set_option maxHeartbeats 4000000
namespace PL
open PySem PySem.Spec L2
open PyProof.Rows hiding St
set_option autoImplicit false
/-! ### {a tuple: v} -/
def tDispT (trs : List (TE × TE)) : TE := fun σ H Q => ∀ p, H p = none → tPairs trs σ (upd H p (.dT [])) fun ps H2 => ∃ y z H3, ps = [(y, z)] ∧ PutD H2 p y z H3 ∧ Q (.ref p) H3
def dDispT (prs : List (Den × Den)) : Den := fun ρ => match dPairs prs (lockE [] ρ) with
  | some ([(q, e)], ρ2) => if (noOw ρ2 && kGood true q) = true then .ok (.dic true [q] [e]) (backE [] ρ ρ2) else .bad
  | _ => .bad
section
variable {X : Cx} {W : WX} {pos : Pos} {k : Nat} {K : PySem.W.Frag} {mg : Str → Option Value}
theorem pe_dispT {keys : List (Option Expr)} {values : List Expr} {trs : List (TE × TE)} (roomy : X.A.units + 1 < cLine) (h : PPs X pos keys values trs) (hall : keys.all (·.isSome) = true) (hl : keys.length = values.length) (h0 : keys ≠ []) (h15 : keys.length ≤ 15) : PE X (.Dict keys values pos) (tDispT trs) := by
  refine ⟨fun pins s σ H Q I top => ?_⟩
  have empty := I.hok.fresh (Nat.le_refl s.heap.objs.size)
  have laid : Inv X pins σ (upd H s.heap.objs.size (.dT [])) { s with heap := s.heap.push { cls := .type "dict", data := .dict #[] } } := I.laid (t' := s.toks) (fun _ _ e => Heap.get?_push_of_some _ e) (Nat.le_refl _) (dt_empty s.heap I.big)
  refine PySem.wpAny_Dict_any hall hl h0 h15 (thn (h.run pins _ σ _ _ laid (top _ empty)) fun ws s2 ⟨ps, H2, I2, rel, y, z, H3, ep, put, q2⟩ => ?_)
  subst ep
  cases rel with
  | cons r1 rest =>
    cases rest
    obtain ⟨ry, rz⟩ := r1
    unfold storeAll
    refine wpAny_bind (wpAny_bind (put_in_block roomy I2 put ry rz fun s3 I3 => wpAny_pure ?_))
    exact wpAny_pure ⟨.ref s.heap.objs.size, H3, I3, rfl, q2⟩
theorem fo_dispT {trs : List (TE × TE)} {prs : List (Den × Den)} (h : POk K mg (fun _ _ _ _ => False) trs prs) : FOk K mg W (tDispT trs) (dDispT prs) := fun H₀ S₀ M S σ H ρ Q ab hp => by
  unfold dDispT at hp
  split at hp
  · rename_i q e ρ2 eP
    by_cases hc : (noOw ρ2 && kGood true q) = true
    · simp only [if_pos hc] at hp
      obtain ⟨hc0, hc1⟩ := (Bool.and_eq_true _ _).mp hc
      intro D hD
      have ab2 := ab.step (Step.hid (o := .dT []) ab.sub hD)
      have aE := ab2.enter []
      have nL : ¬ Lent σ ρ D := fun ⟨i, s, p, h1, h2, h3⟩ => by
        obtain ⟨c, o, k1, _, _, _, k5, _⟩ := ab.own i s p h1 h2
        rw [h3] at k1
        cases k1
        rw [hD] at k5; cases k5
      have sD : S D = none := Same.free ab.sub hD
      refine pairs_run h aE eP fun vs S' H' a1 s1 r1 r2 => ?_
      have kD : H' D = some (.dT []) := a1.keep D _ upd_same nL
      have sD' : S' D = none := by
        cases q : S' D with
        | none => rfl
        | some o =>
          rcases a1.grow D o q with z | z | ⟨us, z⟩
          · rw [sD] at z; cases z
          · rw [upd_same] at z; cases z
          · subst z
            have z := (a1.sub _ _ q).symm.trans kD
            cases z
      match vs, r1, r2 with
      | [(y, z)], .cons ry .nil, .cons rz .nil =>
        obtain ⟨kk, b, rfl, eb, hb⟩ := tup_key ry hc1
        have eb : y = V.ref b := eb
        subst eb
        have aX := ab2.exit (own := []) a1
        have hn : ∀ (j : Nat) s q, (backE [] ρ ρ2)[j]? = some s → s.own? = some q → σ[j]? ≠ some (some (.ref D)) := fun j s q ej es z => by
          obtain ⟨c, o, k1, k2, k3, k4, k5, k6⟩ := aX.own j s q ej es
          rw [z] at k1
          cases k1
          rcases backE_get ej (by intro w; subst w; cases es) with ⟨_, q', hq, _⟩ | ⟨h1, t, t', h2, h3, h4⟩
          · subst hq; cases es
          · have ht : ∃ p, t.own? = some p := by
              cases t <;> cases t' <;> simp [Sl.back] at h4 <;> subst h4 <;> first | (cases es; done) | exact ⟨_, rfl⟩
            obtain ⟨p, hp'⟩ := ht
            exact nL ⟨j, t, p, h2, hp', z⟩
        have own : OwnO K S' (.dic true [.tup (kk.map keyPV)] [e]) (.dT (L2.putK [] kk z)) := ⟨rfl, .cons rz .nil⟩
        exact ⟨_, _, _, rfl, ⟨[], kk, b, rfl, a1.sub _ _ hb, kD, by rw [sizeLine_eq]; simp, rfl⟩, hp (.ref D) S' _ (aX.other (ab.none0 hD) sD' hn) ⟨D, _, rfl, ab.none0 hD, sD', upd_same, own, hn⟩⟩
    · simp only [if_neg hc] at hp
      exact hp.elim
  · exact hp.elim
theorem df_dispT {keys : List (Option Expr)} {values : List Expr} {prs : List (Den × Den)} (c : Ctx X W k) (h : DPs X W pos keys values prs) (hall : keys.all (·.isSome) = true := by rfl) (hl : keys.length = values.length := by rfl) (h0 : keys ≠ [] := by intro z; cases z) (h15 : keys.length ≤ 15 := by decide) :
    DF X W (.Dict keys values pos) (dDispT prs) := by
  obtain ⟨trs, h1, h2⟩ := h.ex
  exact DF.of (pe_dispT (by have := c.hu; omega) h1 hall hl h0 h15) (fo_dispT h2)
@[simp] theorem ap_dDispT {prs : List (Den × Den)} {ρ : Env} : dDispT prs ρ = match dPairs prs (lockE [] ρ) with
  | some ([(q, e)], ρ2) => if (noOw ρ2 && kGood true q) = true then .ok (.dic true [q] [e]) (backE [] ρ ρ2) else .bad
  | _ => .bad := id rfl
end
end PL

set_option Elab.async false
set_option linter.all false
set_option maxRecDepth 100000
set_option maxHeartbeats 4000000
namespace PL
open PySem PySem.Spec L2
set_option autoImplicit false
/-! ### more ways to read a body -/
theorem sIf_t {dt : DenB} {a b : DenS} {ρ ρ1 : Env} (h : dt ρ = .ok true ρ1) : sIf dt a b ρ = a ρ1 := by rw [ap_sIf, h]; rfl
theorem sIf_f {dt : DenB} {a b : DenS} {ρ ρ1 : Env} (h : dt ρ = .ok false ρ1) : sIf dt a b ρ = b ρ1 := by rw [ap_sIf, h]; rfl
theorem seq_rt {a b : DenS} {ρ ρ1 : Env} {p : PV} (h : a ρ = .rt p ρ1) : sSeq a b ρ = .rt p ρ1 := by rw [ap_sSeq, h]
theorem seq_exc {a b : DenS} {ρ ρ1 : Env} {x : Exn} (h : a ρ = .exc x ρ1) : sSeq a b ρ = .exc x ρ1 := by rw [ap_sSeq, h]
theorem sFor_ok {di : DenL} {dg : DenG} {b : DenS} {ρ ρ1 : Env} {xs : List PV} (h : di ρ = .ok xs ρ1) : sFor di dg b ρ = dLoop dg b xs ρ1 := by rw [ap_sFor, h]; rfl
theorem sSet_ok {i : Nat} {da : Den} {p : PV} {ρ ρ1 : Env} (h : da ρ = .ok p ρ1) : sSet i da ρ = .nx (ρ1.set i (.sh p)) := by rw [ap_sSet, h]; rfl
theorem sSetF_ok {i : Nat} {da : Den} {p : PV} {ρ ρ1 : Env} (h : da ρ = .ok p ρ1) : sSetF i da ρ = .nx (ρ1.set i (.ow p)) := by rw [ap_sSetF, h]; rfl
theorem sRet_ok {da : Den} {p : PV} {ρ ρ1 : Env} (h : da ρ = .ok p ρ1) : sRet da ρ = .rt p ρ1 := by rw [ap_sRet, h]; rfl
theorem sExpr_ok {da : Den} {p : PV} {ρ ρ1 : Env} (h : da ρ = .ok p ρ1) : sExpr da ρ = .nx ρ1 := by rw [ap_sExpr, h]; rfl
theorem run_ex {fr : Bool} {n len : Nat} {d : DenS} {ps : List PV} {env : Env} {p : PV} (e : ∃ ρ, d env = .rt p ρ) (hl : ps.length = n := by rfl) (henv : argSl false ps ++ List.replicate (len - n) .un = env := by rfl) : runD false fr n len d ps = .ok p .non := by
  obtain ⟨ρ, e⟩ := e
  exact run_rt e hl henv
/-! facts -/
theorem tr_bl (b : Bool) : truth (.bl b) = some b := by cases b <;> rfl
theorem tr_nil : truth (.lst []) = some false := rfl
theorem tr_cons (p : PV) (l : List PV) : truth (.lst (p :: l)) = some true := rfl
theorem isN_lst (n : Bool) (l : List PV) : gIsN n (.lst l) .non = some (.bl n) := by cases n <;> rfl
theorem isN_tup (n : Bool) (l : List PV) : gIsN n (.tup l) .non = some (.bl n) := by cases n <;> rfl
theorem isN_int (n : Bool) (i : Int) : gIsN n (.int i) .non = some (.bl n) := by cases n <;> rfl
theorem isN_str (n : Bool) (i : Str) : gIsN n (.str i) .non = some (.bl n) := by cases n <;> rfl
theorem isN_bl (n : Bool) (i : Bool) : gIsN n (.bl i) .non = some (.bl n) := by cases n <;> rfl
theorem isN_non (n : Bool) : gIsN n .non .non = some (.bl (!n)) := by cases n <;> rfl
theorem lg2 {j : Int} (h : j ≤ 1000000000000000000) (h0 : 0 < j) : j.natAbs.log2 < 9000 := by
  have h1 : j.natAbs ≠ 0 := by omega
  have h2 : j.natAbs.log2 < 60 := by rw [Nat.log2_lt h1]; omega
  omega
theorem sum_mapF {α : Type} (f : α → Int) (l : List α) : gSumN [.lst (l.map fun c => PV.int (f c))] = some (.int (l.map f).sum) := by
  simp [gSumN, ints_mapF]
theorem sum_bd {α : Type} (f : α → Int) (c : Int) : ∀ (l : List α), (∀ x ∈ l, 0 ≤ f x ∧ f x ≤ c) → 0 ≤ (l.map f).sum ∧ (l.map f).sum ≤ c * l.length
  | [], _ => by simp
  | x :: l, h => by
    obtain ⟨h1, h2⟩ := h x List.mem_cons_self
    obtain ⟨h3, h4⟩ := sum_bd f c l fun y hy => h y (List.mem_cons_of_mem _ hy)
    rw [List.map_cons, List.sum_cons, List.length_cons]
    have e : c * ((l.length + 1 : Nat) : Int) = c * (l.length : Int) + c := by
      rw [show ((l.length + 1 : Nat) : Int) = (l.length : Int) + 1 by omega, Int.mul_add, Int.mul_one]
    omega
theorem range_from (s n : Nat) : rangeP (s : Int) n = (List.range' s n).map fun i : Nat => PV.int (i : Nat) := by
  rw [List.range'_eq_map_range]
  simp [rangeP, List.map_map, Function.comp_def]
/-! loops as folds -/
theorem dLoop_foldR {σ α : Type} {tgt : DenG} {body : DenS} (R : σ → Env → Prop) (g : α → PV) (step : σ → α → σ) : ∀ (l : List α), (∀ s a ρ, R s ρ → a ∈ l → ∃ ρ1 ρ2, tgt (g a) ρ = some ρ1 ∧ (body ρ1 = .nx ρ2 ∨ body ρ1 = .ct ρ2) ∧ R (step s a) ρ2) → ∀ {s0 : σ} {ρ0 : Env}, R s0 ρ0 → ∃ ρ, dLoop tgt body (l.map g) ρ0 = .nx ρ ∧ R (l.foldl step s0) ρ
  | [], _, s0, ρ0, h0 => ⟨ρ0, rfl, h0⟩
  | a :: l, h, s0, ρ0, h0 => by
    obtain ⟨ρ1, ρ2, e1, e2, h2⟩ := h s0 a ρ0 h0 List.mem_cons_self
    obtain ⟨ρ, e3, h3⟩ := dLoop_foldR R g step l (fun s b ρ hr hb => h s b ρ hr (List.mem_cons_of_mem _ hb)) h2
    refine ⟨ρ, ?_, h3⟩
    rw [List.map_cons]
    unfold dLoop
    rw [e1]
    rcases e2 with e2 | e2
    · simp only [e2]; exact e3
    · simp only [e2]; exact e3
theorem dLoop_foldP {σ α : Type} {tgt : DenG} {body : DenS} (R : σ → Env → Prop) (g : α → PV) (step : σ → α → σ) (s0 : σ) (l : List α)
    (h : ∀ pre a post ρ, l = pre ++ a :: post → R (pre.foldl step s0) ρ → ∃ ρ1 ρ2, tgt (g a) ρ = some ρ1 ∧ (body ρ1 = .nx ρ2 ∨ body ρ1 = .ct ρ2) ∧ R (step (pre.foldl step s0) a) ρ2) {ρ0 : Env} (h0 : R s0 ρ0) : ∃ ρ, dLoop tgt body (l.map g) ρ0 = .nx ρ ∧ R (l.foldl step s0) ρ := by
  have aux : ∀ (post pre : List α) (ρ0 : Env), l = pre ++ post → R (pre.foldl step s0) ρ0 → ∃ ρ, dLoop tgt body (post.map g) ρ0 = .nx ρ ∧ R (l.foldl step s0) ρ := by
    intro post
    induction post with
    | nil => intro pre ρ0 e h1; rw [List.append_nil] at e; subst e; exact ⟨ρ0, rfl, h1⟩
    | cons a post ih =>
      intro pre ρ0 e h1
      obtain ⟨ρ1, ρ2, e1, e2, h2⟩ := h pre a post ρ0 e h1
      obtain ⟨ρ, e3, h3⟩ := ih (pre ++ [a]) ρ2 (by rw [e]; simp) (by rw [List.foldl_append]; exact h2)
      refine ⟨ρ, ?_, h3⟩
      rw [List.map_cons]
      unfold dLoop
      rw [e1]
      rcases e2 with e2 | e2
      · simp only [e2]; exact e3
      · simp only [e2]; exact e3
  exact aux l [] ρ0 rfl h0
end PL

set_option Elab.async false
set_option linter.all false
set_option maxRecDepth 100000
set_option maxHeartbeats 4000000
namespace PL
open PySem PySem.Spec L2 PySem.W
set_option autoImplicit false
/-! ### typed data -/
inductive Ty where
  | int | bl | str
  | lst (t : Ty)
  | tup (ts : List Ty)
mutual
def Is : Ty → PV → Prop
  | .int, p => ∃ i, p = .int i
  | .bl, p => ∃ b, p = .bl b
  | .str, p => ∃ x, p = .str x ∧ PyData.canLay0 (.str x) = true
  | .lst t, p => ∃ l : List PV, p = .lst l ∧ l.length ≤ 100000 ∧ ∀ q ∈ l, Is t q
  | .tup ts, p => ∃ l : List PV, p = .tup l ∧ l.length ≤ 100000 ∧ Iss ts l
def Iss : List Ty → List PV → Prop
  | [], l => l = []
  | t :: ts, l => ∃ q r, l = q :: r ∧ Is t q ∧ Iss ts r
end
mutual
def dep : Ty → Nat
  | .lst t => dep t + 1
  | .tup ts => deps ts + 1
  | _ => 1
def deps : List Ty → Nat
  | [] => 0
  | t :: ts => max (dep t) (deps ts)
end
theorem alikeAll_mem : ∀ {xs ys : List PV}, (∀ p ∈ xs, ∀ q ∈ ys, alike p.toD q.toD = true) → alikeAll (toDs xs) (toDs ys) = true
  | [], ys, _ => by cases ys <;> simp [toDs, alikeAll]
  | p :: xs, [], _ => by simp [toDs, alikeAll]
  | p :: xs, q :: ys, h => by
    simp only [toDs, alikeAll, Bool.and_eq_true]
    exact ⟨h p List.mem_cons_self q List.mem_cons_self, alikeAll_mem fun p' hp q' hq => h p' (List.mem_cons_of_mem _ hp) q' (List.mem_cons_of_mem _ hq)⟩
mutual
theorem is_alike : ∀ (t : Ty) {p q : PV}, Is t p → Is t q → alike p.toD q.toD = true
  | .int, p, q, hp, hq => by
    obtain ⟨i, rfl⟩ := hp; obtain ⟨j, rfl⟩ := hq; simp [PV.toD, alike]
  | .bl, p, q, hp, hq => by
    obtain ⟨i, rfl⟩ := hp; obtain ⟨j, rfl⟩ := hq; simp [PV.toD, alike]
  | .str, p, q, hp, hq => by
    obtain ⟨i, rfl, _⟩ := hp; obtain ⟨j, rfl, _⟩ := hq; simp [PV.toD, alike]
  | .lst t, p, q, hp, hq => by
    obtain ⟨l, rfl, _, hl⟩ := hp; obtain ⟨m, rfl, _, hm⟩ := hq
    simp only [PV.toD, alike]
    exact alikeAll_mem fun p hp q hq => is_alike t (hl p hp) (hm q hq)
  | .tup ts, p, q, hp, hq => by
    obtain ⟨l, rfl, _, hl⟩ := hp; obtain ⟨m, rfl, _, hm⟩ := hq
    simp only [PV.toD, alike]
    exact iss_alike ts hl hm
theorem iss_alike : ∀ (ts : List Ty) {l m : List PV}, Iss ts l → Iss ts m → alikeAll (toDs l) (toDs m) = true
  | [], l, m, hl, hm => by
    have hl : l = [] := hl; have hm : m = [] := hm; subst hl; subst hm; simp [toDs, alikeAll]
  | t :: ts, l, m, hl, hm => by
    obtain ⟨p, l, rfl, h1, h2⟩ := hl; obtain ⟨q, m, rfl, h3, h4⟩ := hm
    simp only [toDs, alikeAll, Bool.and_eq_true]
    exact ⟨is_alike t h1 h3, iss_alike ts h2 h4⟩
end
theorem okD_le {n m : Nat} (h : n ≤ m) : ∀ {p : PV}, okD n p = true → okD m p = true := by
  have one : ∀ (n : Nat) (p : PV), okD n p = true → okD (n + 1) p = true := by
    intro n
    induction n with
    | zero => intro p hp; simp [okD] at hp
    | succ n ih =>
      intro p hp
      have all : ∀ ps : List PV, okDs n ps = true → okDs (n + 1) ps = true := fun ps hps => okDs_iff.mpr fun q hq => ih q (okDs_iff.mp hps q hq)
      cases p with
      | lst ps => simp only [okD, Bool.and_eq_true] at hp ⊢; exact ⟨hp.1, all ps hp.2⟩
      | tup ps => simp only [okD, Bool.and_eq_true] at hp ⊢; exact ⟨hp.1, all ps hp.2⟩
      | ktup ps => simp only [okD, Bool.and_eq_true] at hp ⊢; exact ⟨hp.1, all ps hp.2⟩
      | str x => simpa [okD] using hp
      | klst ps => simp [okD] at hp
      | dic a b c => simp [okD] at hp
      | fn a => simp [okD] at hp
      | _ => rfl
  induction h with
  | refl => exact fun h => h
  | step _ ih => exact fun hp => one _ _ (ih hp)
mutual
theorem is_okD : ∀ (t : Ty) {p : PV}, Is t p → okD (dep t) p = true
  | .int, p, hp => by obtain ⟨i, rfl⟩ := hp; rfl
  | .bl, p, hp => by obtain ⟨i, rfl⟩ := hp; rfl
  | .str, p, hp => by obtain ⟨i, rfl, h⟩ := hp; simpa [dep, okD] using h
  | .lst t, p, hp => by
    obtain ⟨l, rfl, h1, h2⟩ := hp
    exact okD_lst h1 (okDs_iff.mpr fun q hq => is_okD t (h2 q hq))
  | .tup ts, p, hp => by
    obtain ⟨l, rfl, h1, h2⟩ := hp
    exact okD_tup h1 (iss_okD ts h2)
theorem iss_okD : ∀ (ts : List Ty) {l : List PV}, Iss ts l → okDs (deps ts) l = true
  | [], l, hl => by have hl : l = [] := hl; subst hl; rfl
  | t :: ts, l, hl => by
    obtain ⟨p, l, rfl, h1, h2⟩ := hl
    rw [okDs_iff]
    intro q hq
    rcases List.mem_cons.mp hq with rfl | hq
    · exact okD_le (by simp only [deps]; omega) (is_okD t h1)
    · exact okD_le (by simp only [deps]; omega) (okDs_iff.mp (iss_okD ts h2) q hq)
end
mutual
theorem is_pure : ∀ (t : Ty) {p : PV}, Is t p → pure? p = true
  | .int, p, hp => by obtain ⟨i, rfl⟩ := hp; rfl
  | .bl, p, hp => by obtain ⟨i, rfl⟩ := hp; rfl
  | .str, p, hp => by obtain ⟨i, rfl, h⟩ := hp; rfl
  | .lst t, p, hp => by
    obtain ⟨l, rfl, _, h2⟩ := hp
    have : ∀ l : List PV, (∀ q ∈ l, Is t q) → pures? l = true := by
      intro l
      induction l with
      | nil => intro _; rfl
      | cons x l ih => intro h; simp only [pures?, Bool.and_eq_true]; exact ⟨is_pure t (h x List.mem_cons_self), ih fun q hq => h q (List.mem_cons_of_mem _ hq)⟩
    exact this l h2
  | .tup ts, p, hp => by
    obtain ⟨l, rfl, _, h2⟩ := hp
    exact iss_pure ts h2
theorem iss_pure : ∀ (ts : List Ty) {l : List PV}, Iss ts l → pures? l = true
  | [], l, hl => by have hl : l = [] := hl; subst hl; rfl
  | t :: ts, l, hl => by
    obtain ⟨p, l, rfl, h1, h2⟩ := hl
    simp only [pures?, Bool.and_eq_true]
    exact ⟨is_pure t h1, iss_pure ts h2⟩
end
theorem is_non : ∀ (t : Ty) {p : PV}, Is t p → isNonD p.toD = false
  | .int, p, hp => by obtain ⟨i, rfl⟩ := hp; simp [PV.toD, isNonD]
  | .bl, p, hp => by obtain ⟨i, rfl⟩ := hp; simp [PV.toD, isNonD]
  | .str, p, hp => by obtain ⟨i, rfl, _⟩ := hp; simp [PV.toD, isNonD]
  | .lst t, p, hp => by obtain ⟨i, rfl, _⟩ := hp; simp [PV.toD, isNonD]
  | .tup t, p, hp => by obtain ⟨i, rfl, _⟩ := hp; simp [PV.toD, isNonD]
def tup1 : Ty → Bool
  | .tup (_ :: _) => true
  | _ => false
def sOk : Ty → Bool
  | .tup [] => false
  | _ => true
section
variable {t : Ty} (ht : dep t ≤ 30)
include ht
theorem is_shaped {p : PV} (h : Is t p) : SeqAt.shaped p.toD = true := okD_shaped (is_okD t h) (by omega)
theorem is_depth {p : PV} (h : Is t p) : p.toD.depth ≤ 32 := Nat.le_trans (okD_lay _ _ (is_okD t h)).2 (by omega)
theorem ordOk_is {p q : PV} (hp : Is t p) (hq : Is t q) : ordOk p q = true := by
  unfold ordOk
  rw [is_shaped ht hp, is_shaped ht hq, is_alike t hp hq, is_non t hp]
  rfl
theorem ltD_is {p q : PV} (hp : Is t p) (hq : Is t q) : gLtD p q = some (.bl (pvLt p q)) := by
  unfold gLtD
  rw [ordOk_is ht hp hq]
  rfl
theorem gtD_is {p q : PV} (hp : Is t p) (hq : Is t q) : gGtD p q = some (.bl (pvLt q p)) := by
  unfold gGtD
  rw [ordOk_is ht hp hq]
  rfl
theorem sortOk_is (hs : sOk t = true) {ps : List PV} (h : ∀ p ∈ ps, Is t p) (hl : ps.length ≤ 1000000) : sortOk ps = true := by
  unfold sortOk
  simp only [Bool.and_eq_true, Bool.or_eq_true, List.all_eq_true, decide_eq_true_eq]
  refine ⟨⟨⟨fun p hp => ⟨is_shaped ht (h p hp), is_depth ht (h p hp)⟩, fun p hp q hq => is_alike t (h p hp) (h q hq)⟩, ?_⟩, szn hl⟩
  cases t with
  | tup ts =>
    cases ts with
    | nil => cases hs
    | cons t ts =>
      left
      intro p hp
      obtain ⟨l, rfl, _, q, r, rfl, _⟩ := h p hp
      simp [PV.toD, toDs, isTup1]
  | int => right; intro p hp; obtain ⟨i, rfl⟩ := h p hp; simp [PV.toD, isOth]
  | bl => right; intro p hp; obtain ⟨i, rfl⟩ := h p hp; simp [PV.toD, isOth]
  | str => right; intro p hp; obtain ⟨i, rfl, _⟩ := h p hp; simp [PV.toD, isOth]
  | lst t => right; intro p hp; obtain ⟨i, rfl, _⟩ := h p hp; simp [PV.toD, isOth]
theorem sortD_is (hs : sOk t = true) {ps : List PV} (h : ∀ p ∈ ps, Is t p) (hl : ps.length ≤ 1000000) : gSortD [.lst ps] = some (.lst (ps.mergeSort pvLe)) := by
  simp [gSortD, sortOk_is ht hs h hl]
theorem bestOk_is {ps : List PV} (h : ∀ p ∈ ps, Is t p) : bestOk ps = true := by
  unfold bestOk
  simp only [Bool.and_eq_true, List.all_eq_true, decide_eq_true_eq, Bool.not_eq_true']
  exact ⟨fun p hp => ⟨⟨⟨is_shaped ht (h p hp), is_depth ht (h p hp)⟩, is_pure t (h p hp)⟩, is_non t (h p hp)⟩, fun p hp q hq => is_alike t (h p hp) (h q hq)⟩
theorem minD_is {p : PV} {ps : List PV} (h : ∀ q ∈ p :: ps, Is t q) : gMinD [.lst (p :: ps)] = some (minP p ps) := by
  simp [gMinD, bestOk_is ht h]
theorem maxD_is {p : PV} {ps : List PV} (h : ∀ q ∈ p :: ps, Is t q) : gMaxD [.lst (p :: ps)] = some (maxP p ps) := by
  simp [gMaxD, bestOk_is ht h]
end
theorem is_tup2 {t1 t2 : Ty} {p q : PV} (h1 : Is t1 p) (h2 : Is t2 q) : Is (.tup [t1, t2]) (.tup [p, q]) := ⟨_, rfl, by simp, _, _, rfl, h1, _, _, rfl, h2, rfl⟩
theorem is_int (i : Int) : Is .int (.int i) := ⟨i, rfl⟩
theorem is_lstF {α : Type} {t : Ty} {f : α → PV} {l : List α} (hl : l.length ≤ 100000) (h : ∀ x ∈ l, Is t (f x)) : Is (.lst t) (.lst (l.map f)) := ⟨_, rfl, by simpa using hl, fun q hq => by
  obtain ⟨x, hx, rfl⟩ := List.mem_map.mp hq
  exact h x hx⟩
/-! membership of whole numbers -/
theorem gIn_ints {α : Type} (neg : Bool) (a : Int) (f : α → Int) (l : List α) (hl : l.length ≤ 100000) : gIn neg (.int a) (.lst (l.map fun c => PV.int (f c))) = some (.bl (if neg then !(l.any fun c => decide (f c = a)) else l.any fun c => decide (f c = a))) := by
  have h1 : SeqAt.shaped (PV.lst (l.map fun c => PV.int (f c))).toD = true := okD_shaped (n := 2) (okD_lst (by simpa using hl) (okDs_map fun x _ => okD_int _)) (by omega)
  show (if (SeqAt.shaped (PV.int a).toD && SeqAt.shaped (PV.lst (l.map fun c => PV.int (f c))).toD) = true then _ else _) = _
  rw [h1, shaped_int]
  simp [List.any_map, Function.comp_def]
end PL

set_option Elab.async false
set_option linter.all false
set_option maxRecDepth 100000
set_option maxHeartbeats 4000000
namespace PL
open PySem PySem.Spec L2
set_option autoImplicit false
/-! ### typed dicts -/
section
variable {κ ν : Type} [DecidableEq κ] {kP : κ → PV} {vP : ν → PV}
def dA (t : Bool) (kP : κ → PV) (vP : ν → PV) (D : List (κ × ν)) : PV := .dic t (D.map fun kv => kP kv.1) (D.map fun kv => vP kv.2)
def lookA : List (κ × ν) → κ → Option ν
  | [], _ => none
  | kv :: r, g => if kv.1 = g then some kv.2 else lookA r g
def putA (D : List (κ × ν)) (g : κ) (h : ν) : List (κ × ν) := if (D.any fun kv => decide (kv.1 = g)) = true then D.map (fun kv => if kv.1 = g then (kv.1, h) else kv) else D ++ [(g, h)]
theorem look_A (hk : ∀ a b, kEq (kP a) (kP b) = decide (a = b)) (g : κ) : ∀ D : List (κ × ν), dLook (D.map fun kv => kP kv.1) (D.map fun kv => vP kv.2) (kP g) = (lookA D g).map vP
  | [] => rfl
  | kv :: r => by
    simp only [List.map_cons, dLook, lookA, hk, look_A hk g r]
    by_cases h : kv.1 = g <;> simp [h]
theorem putVs_A (hk : ∀ a b, kEq (kP a) (kP b) = decide (a = b)) (g : κ) (h : ν) : ∀ D : List (κ × ν), putVs (D.map fun kv => kP kv.1) (D.map fun kv => vP kv.2) (kP g) (vP h) = (D.map fun kv => if kv.1 = g then (kv.1, h) else kv).map fun kv => vP kv.2
  | [] => rfl
  | kv :: r => by
    simp only [List.map_cons, putVs, hk, putVs_A hk g h r]
    by_cases e : kv.1 = g <;> simp [e]
theorem put_A (hk : ∀ a b, kEq (kP a) (kP b) = decide (a = b)) (D : List (κ × ν)) (g : κ) (h : ν) : dPutQ (D.map fun kv => kP kv.1) (D.map fun kv => vP kv.2) (kP g) (vP h) = ((putA D g h).map (fun kv => kP kv.1), (putA D g h).map fun kv => vP kv.2) := by
  have e : ((D.map fun kv => kP kv.1).any fun k => kEq k (kP g)) = D.any fun kv => decide (kv.1 = g) := by
    induction D with
    | nil => rfl
    | cons kv r ih => simp only [List.map_cons, List.any_cons, hk, ih]
  unfold dPutQ putA
  rw [e]
  by_cases hz : (D.any fun kv => decide (kv.1 = g)) = true
  · rw [if_pos hz, if_pos hz, putVs_A hk]
    simp only [List.map_map]
    congr 1
    refine List.map_congr_left fun kv _ => ?_
    simp only [Function.comp]
    split <;> rfl
  · rw [if_neg hz, if_neg hz]
    simp
theorem any_look (D : List (κ × ν)) (g : κ) : (D.any fun kv => decide (kv.1 = g)) = (lookA D g).isSome := by
  induction D with
  | nil => rfl
  | cons kv r ih =>
    simp only [List.any_cons, lookA, ih]
    by_cases e : kv.1 = g <;> simp [e]
theorem lookA_put (D : List (κ × ν)) (g g' : κ) (h : ν) : lookA (putA D g h) g' = if g = g' then some h else lookA D g' := by
  unfold putA
  by_cases hz : (D.any fun kv => decide (kv.1 = g)) = true
  · rw [if_pos hz]
    induction D with
    | nil => cases hz
    | cons kv r ih =>
      simp only [List.map_cons, lookA]
      by_cases e : kv.1 = g
      · simp only [e, if_true]
        by_cases e2 : g = g'
        · simp [e2]
        · simp only [e2, if_false]
          by_cases hr : (r.any fun kv => decide (kv.1 = g)) = true
          · rw [ih hr, if_neg e2]
          · have hr2 : r.map (fun kv => if kv.1 = g then (kv.1, h) else kv) = r := by
              have : ∀ kv ∈ r, (if kv.1 = g then (kv.1, h) else kv) = kv := fun kv hk => by
                rw [if_neg]
                intro z
                exact hr (List.any_eq_true.mpr ⟨kv, hk, by simpa using z⟩)
              exact (List.map_congr_left this).trans (by simp)
            rw [hr2]
      · simp only [e, if_false]
        have hr : (r.any fun kv => decide (kv.1 = g)) = true := by simpa [e] using hz
        rw [ih hr]
        by_cases e2 : kv.1 = g'
        · subst e2
          rw [if_pos rfl, if_pos rfl, if_neg (fun z => e z.symm)]
        · rw [if_neg e2, if_neg e2]
  · rw [if_neg hz]
    induction D with
    | nil => simp [lookA]
    | cons kv r ih =>
      have e : ¬ kv.1 = g := fun z => hz (by simp [z])
      have hr : ¬ (r.any fun kv => decide (kv.1 = g)) = true := fun z => hz (by simp only [List.any_cons, z, Bool.or_true])
      simp only [List.cons_append, lookA, ih hr]
      by_cases e2 : kv.1 = g'
      · subst e2
        rw [if_pos rfl, if_pos rfl, if_neg (fun z => e z.symm)]
      · rw [if_neg e2, if_neg e2]
theorem putA_len (D : List (κ × ν)) (g : κ) (h : ν) : (putA D g h).length ≤ D.length + 1 := by
  unfold putA
  split <;> simp
theorem putA_keys (D : List (κ × ν)) (g : κ) (h : ν) : (putA D g h).map (·.1) = if g ∈ D.map (·.1) then D.map (·.1) else D.map (·.1) ++ [g] := by
  have e : (D.any fun kv => decide (kv.1 = g)) = decide (g ∈ D.map (·.1)) := by
    induction D with
    | nil => rfl
    | cons kv r ih =>
      simp only [List.any_cons, List.map_cons, List.mem_cons, ih]
      by_cases e : kv.1 = g
      · simp [e]
      · have e' : ¬ g = kv.1 := fun z => e z.symm
        simp [e, e']
  unfold putA
  rw [e]
  by_cases hm : g ∈ D.map (·.1)
  · rw [if_pos hm, if_pos (by simpa using hm), List.map_map]
    refine List.map_congr_left fun kv _ => ?_
    simp only [Function.comp]
    split <;> rfl
  · rw [if_neg hm, if_neg (by simpa using hm)]
    simp
theorem putA_nodup {D : List (κ × ν)} {g : κ} {h : ν} (n : (D.map (·.1)).Nodup) : ((putA D g h).map (·.1)).Nodup := by
  rw [putA_keys]
  split
  · exact n
  · rename_i hm
    rw [List.nodup_append]
    exact ⟨n, by simp, fun a ha b hb z => by simp only [List.mem_singleton] at hb; subst hb; subst z; exact hm ha⟩
theorem mem_putA {D : List (κ × ν)} {g : κ} {h : ν} {kv : κ × ν} (m : kv ∈ putA D g h) : kv = (g, h) ∨ kv ∈ D := by
  unfold putA at m
  split at m
  · obtain ⟨kv', h1, h2⟩ := List.mem_map.mp m
    split at h2
    · rename_i e; left; rw [← h2, e]
    · right; rw [← h2]; exact h1
  · rcases List.mem_append.mp m with h1 | h1
    · exact .inr h1
    · left; simpa using h1
theorem look_mem {D : List (κ × ν)} {g : κ} {v : ν} (h : lookA D g = some v) : (g, v) ∈ D := by
  induction D with
  | nil => cases h
  | cons kv r ih =>
    unfold lookA at h
    split at h
    · rename_i e; cases h; rw [← e]; exact List.mem_cons_self
    · exact List.mem_cons_of_mem _ (ih h)
theorem look_of_mem {D : List (κ × ν)} {kv : κ × ν} (n : (D.map (·.1)).Nodup) (h : kv ∈ D) : lookA D kv.1 = some kv.2 := by
  induction D with
  | nil => cases h
  | cons kv' r ih =>
    rw [List.map_cons, List.nodup_cons] at n
    unfold lookA
    rcases List.mem_cons.mp h with rfl | h
    · rw [if_pos rfl]
    · rw [if_neg]
      · exact ih n.2 h
      · intro e
        exact n.1 (by rw [e]; exact List.mem_map_of_mem h)
end
section
variable {κ ν : Type} [DecidableEq κ] {kP : κ → PV} {vP : ν → PV} {t : Bool}
theorem get_A (hk : ∀ a b, kEq (kP a) (kP b) = decide (a = b)) (k : κ) (hg : kGood t (kP k) = true) (D : List (κ × ν)) : gDG (dA t kP vP D) (kP k) = (lookA D k).map vP := by
  show (if kGood t (kP k) = true then dLook (D.map fun kv => kP kv.1) (D.map fun kv => vP kv.2) (kP k) else none) = _
  rw [if_pos hg, look_A hk]
theorem has_A (hk : ∀ a b, kEq (kP a) (kP b) = decide (a = b)) (k : κ) (hg : kGood t (kP k) = true) (D : List (κ × ν)) (n : Bool) : gDHas n (kP k) (dA t kP vP D) = some (.bl (if n then !(lookA D k).isSome else (lookA D k).isSome)) := by
  show (if kGood t (kP k) = true then some (PV.bl (if n then !(dLook (D.map fun kv => kP kv.1) (D.map fun kv => vP kv.2) (kP k)).isSome else (dLook (D.map fun kv => kP kv.1) (D.map fun kv => vP kv.2) (kP k)).isSome)) else none) = _
  rw [if_pos hg, look_A hk]
  simp
theorem get2_A (hk : ∀ a b, kEq (kP a) (kP b) = decide (a = b)) (k : κ) (hg : kGood t (kP k) = true) (D : List (κ × ν)) (d : PV) : gDG2 (dA t kP vP D) (kP k) d = some (((lookA D k).map vP).getD d) := by
  show (if kGood t (kP k) = true then some ((dLook (D.map fun kv => kP kv.1) (D.map fun kv => vP kv.2) (kP k)).getD d) else none) = _
  rw [if_pos hg, look_A hk]
end
/-! keys -/
def kII (g : Int × Int) : PV := .tup [.int g.1, .int g.2]
theorem kEq_II (a b : Int × Int) : kEq (kII a) (kII b) = decide (a = b) := by
  have e := kEq_keys [Sum.inl a.1, Sum.inl a.2] [Sum.inl b.1, Sum.inl b.2]
  obtain ⟨a1, a2⟩ := a
  obtain ⟨b1, b2⟩ := b
  simp only [kII]
  refine Eq.trans e ?_
  simp
theorem good_II (g : Int × Int) : kGood true (kII g) = true := rfl
theorem kEq_int (a b : Int) : kEq (.int a) (.int b) = decide (a = b) := by
  have e := kEq_key (Sum.inl a) (Sum.inl b)
  refine Eq.trans e ?_
  simp
theorem good_int (g : Int) : kGood false (.int g) = true := rfl
theorem kEq_str (a b : Str) : kEq (.str a) (.str b) = decide (a = b) := by
  have e := kEq_key (Sum.inr a) (Sum.inr b)
  refine Eq.trans e ?_
  simp
theorem kEq_comp {α β : Type} [DecidableEq α] [DecidableEq β] {kP : β → PV} (hk : ∀ a b, kEq (kP a) (kP b) = decide (a = b)) {f : α → β} (hf : ∀ a b, f a = f b → a = b) (a b : α) : kEq (kP (f a)) (kP (f b)) = decide (a = b) := by
  rw [hk]
  by_cases h : a = b
  · simp [h]
  · have : ¬ f a = f b := fun z => h (hf a b z)
    simp [h, this]
/-! few different numbers -/
theorem nodup_le {l : List Nat} {n : Nat} (h : l.Nodup) (hl : ∀ x ∈ l, x < n) : l.length ≤ n := by
  have p : l.Perm ((List.range n).filter fun x => decide (x ∈ l)) := by
    refine (List.perm_ext_iff_of_nodup h (List.nodup_range.filter _)).mpr fun x => ?_
    simp only [List.mem_filter, List.mem_range, decide_eq_true_eq]
    exact ⟨fun hx => ⟨hl x hx, hx⟩, fun hx => hx.2⟩
  rw [p.length_eq]
  have := List.length_filter_le (fun x => decide (x ∈ l)) (List.range n)
  simpa using this
theorem nodup_map_le {α : Type} {l : List α} {f : α → Nat} {n : Nat} (h : l.Nodup) (hf : ∀ x ∈ l, ∀ y ∈ l, f x = f y → x = y) (hl : ∀ x ∈ l, f x < n) : l.length ≤ n := by
  have h2 : (l.map f).Nodup := by
    clear hl
    induction l with
    | nil => simp
    | cons x l ih =>
      rw [List.nodup_cons] at h
      rw [List.map_cons, List.nodup_cons]
      refine ⟨fun z => ?_, ih h.2 fun a ha b hb => hf a (List.mem_cons_of_mem _ ha) b (List.mem_cons_of_mem _ hb)⟩
      obtain ⟨y, hy, e⟩ := List.mem_map.mp z
      have := hf x List.mem_cons_self y (List.mem_cons_of_mem _ hy) e.symm
      exact h.1 (this ▸ hy)
  have := nodup_le h2 (n := n) fun x hx => by
    obtain ⟨y, hy, rfl⟩ := List.mem_map.mp hx
    exact hl y hy
  simpa using this
/-! comprehensions over dicts -/
theorem set_back {ρ : Env} {i : Nat} {s s' : Sl} (h : ρ[i]? = some s) : (ρ.set i s').set i s = ρ := by
  rw [List.set_set]
  obtain ⟨hi, e⟩ := List.getElem?_eq_some_iff.mp h
  rw [← e]
  exact List.set_getElem_self hi
section
variable {α : Type} {i j : Nat} {ρ : Env} {T : DenB} {E : Den} {vs : List PV} {t' : Bool}
theorem dLcDk_okF (g f : α → PV) (t : α → Bool) (l : List α) (e : ρ[i]? = some (.ow (.dic t' (l.map g) vs))) (h0 : (ρ.set i .un)[j]? = some .un) (hl : l.length ≤ 1000000) (hT : ∀ c ∈ l, T (((ρ.set i .un).map Sl.lock).set j (.sh (g c))) = .ok (t c) (((ρ.set i .un).map Sl.lock).set j (.sh (g c)))) (hE : ∀ c ∈ l, t c = true → E (((ρ.set i .un).map Sl.lock).set j (.sh (g c))) = .ok (f c) (((ρ.set i .un).map Sl.lock).set j (.sh (g c)))) :
    dLcDk [j] i (gName j) T E ρ = .ok (.lst ((l.filter t).map f)) ρ := by
  have h1 : ((ρ.set i .un).map Sl.lock)[j]? = some .un := by rw [List.getElem?_map, h0]; rfl
  have h2 := List.length_filter_le t l
  rw [ap_dLcDk, e]
  show (match lcLoop [j] (gName j) T E (l.map g) (lockE [j] (ρ.set i .un)) with
    | some (ys, ρ2) => if ys.length ≤ 1000000 then Rs.ok (PV.lst ys) ((backE [j] (ρ.set i .un) ρ2).set i (.ow (.dic t' (l.map g) vs))) else .bad
    | none => .bad) = _
  rw [lcE_un h0, lc_pureF g f t l h1 (lock_noOw _) hT hE]
  simp only [List.length_map, show (l.filter t).length ≤ 1000000 by omega, if_true, back_all h0, set_back e]
theorem dLcD_okF (g f : α → PV) (t : α → Bool) (l : List α) {ρ1 : Env} (e : dVar i ρ = .ok (.dic t' (l.map g) vs) ρ1) (h0 : ρ1[j]? = some .un) (hl : l.length ≤ 1000000) (hT : ∀ c ∈ l, T ((ρ1.map Sl.lock).set j (.sh (g c))) = .ok (t c) ((ρ1.map Sl.lock).set j (.sh (g c)))) (hE : ∀ c ∈ l, t c = true → E ((ρ1.map Sl.lock).set j (.sh (g c))) = .ok (f c) ((ρ1.map Sl.lock).set j (.sh (g c)))) :
    dLcD [j] i (gName j) T E ρ = .ok (.lst ((l.filter t).map f)) ρ1 := by
  have h1 : (ρ1.map Sl.lock)[j]? = some .un := by rw [List.getElem?_map, h0]; rfl
  have h2 := List.length_filter_le t l
  unfold dLcD
  rw [e]
  show (match lcLoop [j] (gName j) T E (l.map g) (lockE [j] ρ1) with
    | some (ys, ρ2) => if ys.length ≤ 1000000 then Rs.ok (PV.lst ys) (backE [j] ρ1 ρ2) else .bad
    | none => .bad) = _
  rw [lcE_un h0, lc_pureF g f t l h1 (lock_noOw _) hT hE]
  simp only [List.length_map, show (l.filter t).length ≤ 1000000 by omega, if_true, back_all h0]
/-- a dict made of a list, whatever it holds -/
theorem dDc_ok (g kf vf : α → PV) (l : List α) {di : DenL} {ke ve : Den} {ρ1 : Env} (hdi : di ρ = .ok (l.map g) ρ1) (h0 : ρ1[j]? = some .un) (hl : l.length ≤ 50000) (hk : ∀ c ∈ l, ke ((ρ1.map Sl.lock).set j (.sh (g c))) = .ok (kf c) ((ρ1.map Sl.lock).set j (.sh (g c))) ∧ kGood true (kf c) = true) (hv : ∀ c ∈ l, ve ((ρ1.map Sl.lock).set j (.sh (g c))) = .ok (vf c) ((ρ1.map Sl.lock).set j (.sh (g c)))) :
    dDc [j] di (gName j) bYes ke ve ρ = .ok (.dic true (l.foldl (fun kv c => dPutQ kv.1 kv.2 (kf c) (vf c)) ([], [])).1 (l.foldl (fun kv c => dPutQ kv.1 kv.2 (kf c) (vf c)) ([], [])).2) ρ1 := by
  have h1 : (ρ1.map Sl.lock)[j]? = some .un := by rw [List.getElem?_map, h0]; rfl
  have put_len : ∀ (ks vs : List PV) (q e : PV), (dPutQ ks vs q e).1.length ≤ ks.length + 1 := fun ks vs q e => by unfold dPutQ; split <;> simp
  have loop : ∀ (l : List α) (ks vs : List PV), ks.length + l.length ≤ 50000 → (∀ c ∈ l, ke ((ρ1.map Sl.lock).set j (.sh (g c))) = .ok (kf c) ((ρ1.map Sl.lock).set j (.sh (g c))) ∧ kGood true (kf c) = true) → (∀ c ∈ l, ve ((ρ1.map Sl.lock).set j (.sh (g c))) = .ok (vf c) ((ρ1.map Sl.lock).set j (.sh (g c)))) →
      dcLoop [j] (gName j) bYes ke ve (l.map g) ks vs (ρ1.map Sl.lock) = some (l.foldl (fun kv c => dPutQ kv.1 kv.2 (kf c) (vf c)) (ks, vs), ρ1.map Sl.lock) := by
    intro l
    induction l with
    | nil => intro ks vs _ _ _; rfl
    | cons c l ih =>
      intro ks vs hz hk hv
      obtain ⟨k1, k2⟩ := hk c List.mem_cons_self
      have v1 := hv c List.mem_cons_self
      have hw : wipeE [j] ((ρ1.map Sl.lock).set j (.sh (g c))) = ρ1.map Sl.lock := by simp only [wipeE]; exact set_un h1
      rw [List.length_cons] at hz
      have hp := put_len ks vs (kf c) (vf c)
      have ih := ih (dPutQ ks vs (kf c) (vf c)).1 (dPutQ ks vs (kf c) (vf c)).2 (by omega) (fun c hc => hk c (List.mem_cons_of_mem _ hc)) fun c hc => hv c (List.mem_cons_of_mem _ hc)
      rw [List.map_cons, dcLoop, ap_gName]
      simp only [ap_bYes, k1, k2, v1, noOw_setS (lock_noOw ρ1), show ks.length < 100000 by omega, decide_true, Bool.and_self, if_true, hw, ih, List.foldl_cons]
  rw [ap_dDc, hdi]
  show (match dcLoop [j] (gName j) bYes ke ve (l.map g) [] [] (lockE [j] ρ1) with
    | some (kv, ρ2) => Rs.ok (PV.dic true kv.1 kv.2) (backE [j] ρ1 ρ2)
    | none => .bad) = _
  rw [lcE_un h0, loop l [] [] (by simpa using hl) hk hv]
  simp only [back_all h0]
end
/-! comprehensions that draw from a deck -/
theorem noOw_setIo {i : Nat} {p : PV} {ρ : Env} (h : noOw ρ = true) : noOw (ρ.set i (.io p)) = true := by
  induction ρ generalizing i with
  | nil => simpa using h
  | cons s r ih =>
    rw [noOw_cons, Bool.and_eq_true] at h
    cases i with
    | zero => simp [h.2]
    | succ i => rw [List.set_cons_succ, noOw_cons, h.1, ih h.2]; rfl
theorem back_io_all {ρ : Env} {i j : Nat} {p q : PV} (hi : ρ[i]? = some .un) (hj : ρ[j]? = some (.ow p)) : backE [i] ρ ((ρ.map Sl.lock).set j (.io q)) = ρ.set j (.ow q) := by
  unfold backE
  obtain ⟨hjl, ej⟩ := List.getElem?_eq_some_iff.mp hj
  obtain ⟨hil, ei⟩ := List.getElem?_eq_some_iff.mp hi
  refine List.ext_getElem (by simp) fun k h1 h2 => ?_
  rw [List.getElem_map, List.getElem_range]
  have hk : k < ρ.length := by simpa using h2
  by_cases hki : k = i
  · subst hki
    have hne : j ≠ k := fun z => by subst z; rw [ei] at ej; cases ej
    have e : [k].contains k = true := by simp
    rw [e, if_pos rfl, List.getElem_set_ne hne, List.getD_eq_getElem?_getD, hi, ei]
    rfl
  · have e : [i].contains k = false := by simp [hki]
    rw [e, if_neg Bool.false_ne_true]
    by_cases hkj : k = j
    · subst hkj
      rw [List.getElem_set_self, List.getD_eq_getElem?_getD, hj, List.getD_eq_getElem?_getD, List.getElem?_set_self (by simpa using hk)]
      rfl
    · have hne : j ≠ k := fun z => hkj z.symm
      rw [List.getElem_set_ne hne, List.getD_eq_getElem?_getD, List.getD_eq_getElem?_getD, List.getElem?_set_ne hne, List.getElem?_map, List.getElem?_eq_getElem hk]
      exact back_lock _
theorem dLc_draw {α γ : Type} {i j : Nat} {ρ ρ1 : Env} {di : DenL} {E : Den} {ds : List Int} (g : γ → PV) (f : α → PV) (P : α → Prop) (items : List γ) (hdi : di ρ = .ok (items.map g) ρ1) (hj : ρ1[j]? = some (.ow (dk ds))) (h0 : ρ1[i]? = some .un) (hl : items.length ≤ 1000000)
    (hE : ∀ c ∈ items, ∀ ds, ∃ v ds', P v ∧ E (((ρ1.map Sl.lock).set j (.io (dk ds))).set i (.sh (g c))) = .ok (f v) (((ρ1.map Sl.lock).set j (.io (dk ds'))).set i (.sh (g c)))) :
    ∃ (vs : List α) (ds' : List Int), vs.length = items.length ∧ (∀ v ∈ vs, P v) ∧ dLc [i] di (gName i) bYes E ρ = .ok (.lst (vs.map f)) (ρ1.set j (.ow (dk ds'))) := by
  have hne : j ≠ i := fun z => by subst z; rw [h0] at hj; cases hj
  have hu : ∀ ds : List Int, ((ρ1.map Sl.lock).set j (.io (dk ds)))[i]? = some .un := fun ds => by
    rw [List.getElem?_set_ne hne, List.getElem?_map, h0]; rfl
  have loop : ∀ (items : List γ) (ds : List Int), (∀ c ∈ items, ∀ ds, ∃ v ds', P v ∧ E (((ρ1.map Sl.lock).set j (.io (dk ds))).set i (.sh (g c))) = .ok (f v) (((ρ1.map Sl.lock).set j (.io (dk ds'))).set i (.sh (g c)))) →
      ∃ (vs : List α) (ds' : List Int), vs.length = items.length ∧ (∀ v ∈ vs, P v) ∧ lcLoop [i] (gName i) bYes E (items.map g) ((ρ1.map Sl.lock).set j (.io (dk ds))) = some (vs.map f, (ρ1.map Sl.lock).set j (.io (dk ds'))) := by
    intro items
    induction items with
    | nil => intro ds _; exact ⟨[], ds, rfl, fun v h => (nomatch h), rfl⟩
    | cons c items ih =>
      intro ds hE
      obtain ⟨v, d1, h1, h2⟩ := hE c List.mem_cons_self ds
      obtain ⟨vs, x2, h3, h4, h5⟩ := ih d1 fun c hc => hE c (List.mem_cons_of_mem _ hc)
      refine ⟨v :: vs, x2, by simp [h3], fun u hu => (List.mem_cons.mp hu).elim (fun z => z ▸ h1) (h4 u), ?_⟩
      have hw : wipeE [i] (((ρ1.map Sl.lock).set j (.io (dk d1))).set i (.sh (g c))) = (ρ1.map Sl.lock).set j (.io (dk d1)) := by simp only [wipeE]; exact set_un (hu d1)
      rw [List.map_cons, lcLoop, ap_gName]
      simp only [ap_bYes, h2, noOw_setS (noOw_setIo (lock_noOw ρ1)), if_true, hw, h5, List.map_cons]
  obtain ⟨vs, x2, h3, h4, h5⟩ := loop items ds hE
  refine ⟨vs, x2, h3, h4, ?_⟩
  have hs : ρ1.map Sl.lock = (ρ1.map Sl.lock).set j (.io (dk ds)) := by
    obtain ⟨hjl, ej⟩ := List.getElem?_eq_some_iff.mp hj
    have h6 : j < (ρ1.map Sl.lock).length := by simpa using hjl
    have h7 : (ρ1.map Sl.lock)[j] = .io (dk ds) := by rw [List.getElem_map, ej]; rfl
    rw [← h7, List.set_getElem_self]
  rw [ap_dLc, hdi]
  show (match lcLoop [i] (gName i) bYes E (items.map g) (lockE [i] ρ1) with
    | some (ys, ρ2) => if ys.length ≤ 1000000 then Rs.ok (PV.lst ys) (backE [i] ρ1 ρ2) else .bad
    | none => .bad) = _
  rw [lcE_un h0, hs, h5]
  simp only [List.length_map, h3, hl, if_true, back_io_all h0 hj]
end PL

set_option Elab.async false
set_option linter.all false
set_option maxRecDepth 100000
set_option maxHeartbeats 4000000
namespace PL.K70
open PySem PySem.Spec L2 PL
open PyProof.Rows hiding St
set_option autoImplicit false
def top (i : Nat) : Stmt := PySem.Challenge.pw_presswork_k70_whole_lines_set.main.body.getD i (.Pass ⟨0, 0, 0, 0⟩)

abbrev errs : List Str := [("InvalidItems" : Str), ("InvalidLength" : Str), ("TooMany" : Str)]
abbrev c_DOUBLE : PV := .int (3000)
abbrev c_FORCED : PV := .int (-10000)
abbrev c_MOST_ITEMS : PV := .int (400)
abbrev c_NEVER : PV := .int (10000)
abbrev c_WORST : PV := .int (10000)
abbrev s__law_deck : Stmt := top 40
abbrev s__law_take : Stmt := top 41
abbrev s__law_items : Stmt := top 43
abbrev s__law_breaks : Stmt := top 44
abbrev s_is_whole : Stmt := top 10
abbrev s_is_item : Stmt := top 11
abbrev s_is_items : Stmt := top 12
abbrev s_check_items : Stmt := top 13
abbrev s_check_paragraph : Stmt := top 14
abbrev s_is_break : Stmt := top 15
abbrev s_all_breaks : Stmt := top 17
abbrev s_is_forced : Stmt := top 16
abbrev s_line_between : Stmt := top 18
abbrev s_sums_of : Stmt := top 21
abbrev s_badness : Stmt := top 26
abbrev s_has_flag : Stmt := top 27
abbrev s_demerits_of : Stmt := top 28
abbrev s_width_at : Stmt := top 29
abbrev s_next_pairs : Stmt := top 30
abbrev s_reached : Stmt := top 31
abbrev s_best_breaks : Stmt := top 32
abbrev s_check_places : Stmt := top 19
abbrev s_line_of : Stmt := top 20
abbrev s_measures : Stmt := top 22
abbrev s_fraction : Stmt := top 36
abbrev s_set_line : Stmt := top 37
abbrev s_is_list_of_breaks : Stmt := top 33
abbrev s_total_demerits : Stmt := top 34
abbrev s_set_paragraph : Stmt := top 38
abbrev s__law_refusal : Stmt := top 51
abbrev s__law_plain : Stmt := top 42
abbrev s__law_line : Stmt := top 45
abbrev s__law_sums : Stmt := top 46
abbrev s__law_badness : Stmt := top 47
abbrev s__law_demerits : Stmt := top 48
abbrev s__law_divisor : Stmt := top 49
abbrev s__law_set : Stmt := top 50
abbrev s_law : Stmt := top 52
abbrev F__law_deck := F_deck
abbrev F__law_take := F_take
def B__law_items_1 : DenS :=
  (sSeq (sSet 4 (dCallIo F__law_take 0 (dCons (dC (.int 8)) dNil)))
    (sIf (bVal (d2 gLt (dVar 4) (dC (.int 4)))) (sExpr (dMut "list" gAppend 2 (dCons (dTup (dCons (dC (.str ("box" : Str))) (dCons (dCallIo F__law_take 0 (dCons (dC (.int 7)) dNil)) (dCons (dAdd (dC (.str ("b" : Str))) (d2 gIx (dC (.str ("0123456789" : Str))) (dMod (dVar 3) (dC (.int 10))))) dNil)))) dNil))) (sIf (bVal (d2 gLt (dVar 4) (dC (.int 7)))) (sSeq (sSet 5 (dCallIo F__law_take 0 (dCons (dC (.int 4)) dNil)))
    (sExpr (dMut "list" gAppend 2 (dCons (dTup (dCons (dC (.str ("glue" : Str))) (dCons (dVar 5) (dCons (dCallIo F__law_take 0 (dCons (dC (.int 4)) dNil)) (dCons (dCallIo F__law_take 0 (dCons (dAdd (dVar 5) (dC (.int 1))) dNil)) dNil))))) dNil)))) (sSeq (sSet 6 (d2 gIx (dLst (dCons (dC (.int 0)) (dCons (dC (.int 50)) (dCons (dNeg (dC (.int 50))) (dCons (dC (.int 10000)) (dCons (dNeg (dC (.int 10000))) (dCons (dC (.int 300)) dNil))))))) (dCallIo F__law_take 0 (dCons (dC (.int 6)) dNil))))
    (sExpr (dMut "list" gAppend 2 (dCons (dTup (dCons (dC (.str ("penalty" : Str))) (dCons (dCallIo F__law_take 0 (dCons (dC (.int 3)) dNil)) (dCons (dVar 6) (dCons (d2 gEq (dCallIo F__law_take 0 (dCons (dC (.int 2)) dNil)) (dC (.int 0))) dNil))))) dNil)))))))
def den__law_items : DenS :=
  (sSeq (sSetF 2 (dLst (dCons (dTup (dCons (dC (.str ("box" : Str))) (dCons (dCallIo F__law_take 0 (dCons (dC (.int 6)) dNil)) (dCons (dC (.str ("b0" : Str))) dNil)))) dNil)))
    (sSeq (sFor (iR2 (dCons (dC (.int 1)) (dCons (dAdd (dC (.int 1)) (dCallIo F__law_take 0 (dCons (dVar 1) dNil))) dNil))) (gName 3) B__law_items_1)
    (sSeq (sIf (bVal (d2 gGt (dCallIo F__law_take 0 (dCons (dC (.int 3)) dNil)) (dC (.int 0)))) (sSetF 2 (d2 gCat (dVar 2) (dLst (dCons (dTup (dCons (dC (.str ("penalty" : Str))) (dCons (dC (.int 0)) (dCons (dC (.int 10000)) (dCons (dC (.bl false)) dNil))))) (dCons (dTup (dCons (dC (.str ("glue" : Str))) (dCons (dC (.int 0)) (dCons (dC (.int 40)) (dCons (dC (.int 0)) dNil))))) dNil))))) sNx)
    (sRet (dAdd (dVar 2) (dLst (dCons (dTup (dCons (dC (.str ("penalty" : Str))) (dCons (dC (.int 0)) (dCons (dNeg (dC (.int 10000))) (dCons (dC (.bl false)) dNil))))) dNil)))))))
def F__law_items : List PV → FR := runD true false 2 7 den__law_items
def B__law_breaks_1 : DenS :=
  (sSeq (sSet 3 (d2 gIx (dVar 0) (dVar 2)))
    (sSeq (sIf (bAnd (bVal (d2 gEq (d2 gIx (dVar 3) (dC (.int 0))) (dC (.str ("penalty" : Str))))) (bVal (d2 gLt (d2 gIx (dVar 3) (dC (.int 2))) (dC (.int 10000))))) (sExpr (dMut "list" gAppend 1 (dCons (dVar 2) dNil))) sNx)
    (sIf (bAnd (bVal (d2 gEq (d2 gIx (dVar 3) (dC (.int 0))) (dC (.str ("glue" : Str))))) (bAnd (bVal (d2 gGt (dVar 2) (dC (.int 0)))) (bVal (d2 gEq (d2 gIx (d2 gIx (dVar 0) (dSub (dVar 2) (dC (.int 1)))) (dC (.int 0))) (dC (.str ("box" : Str))))))) (sExpr (dMut "list" gAppend 1 (dCons (dVar 2) dNil))) sNx)))
def den__law_breaks : DenS :=
  (sSeq (sSetF 1 (dLst dNil))
    (sSeq (sFor (iR1 (dCons (dN gLenN (dCons (dVar 0) dNil)) dNil)) (gName 2) B__law_breaks_1)
    (sRet (dVar 1))))
def F__law_breaks : List PV → FR := runD false false 1 4 den__law_breaks
def den_is_whole : DenS :=
  (sRet (dAndT (d1 (gIsi "int") (dVar 0)) (dNotT (d1 (gIsi "bool") (dVar 0)))))
def F_is_whole : List PV → FR := runD false false 1 1 den_is_whole
def den_is_item : DenS :=
  (sSeq (sIf (bOr (bNot (bTru (d1 (gIsi "tuple") (dVar 0)))) (bNot (bTruV 0))) (sRet (dC (.bl false))) sNx)
    (sSeq (sIf (bVal (d2 gEq (d2 gIx (dVar 0) (dC (.int 0))) (dC (.str ("box" : Str))))) (sRet (dAndT (d2 gEq (dN gLenN (dCons (dVar 0) dNil)) (dC (.int 3))) (dAndT (dCall F_is_whole (dCons (d2 gIx (dVar 0) (dC (.int 1))) dNil)) (dAndT (d2 gGe (d2 gIx (dVar 0) (dC (.int 1))) (dC (.int 0))) (d1 (gIsi "str") (d2 gIx (dVar 0) (dC (.int 2)))))))) sNx)
    (sSeq (sIf (bOr (bVal (d2 gNe (dN gLenN (dCons (dVar 0) dNil)) (dC (.int 4)))) (bOr (bNot (bTru (dCall F_is_whole (dCons (d2 gIx (dVar 0) (dC (.int 1))) dNil)))) (bOr (bNot (bTru (dCall F_is_whole (dCons (d2 gIx (dVar 0) (dC (.int 2))) dNil)))) (bVal (d2 gLt (d2 gIx (dVar 0) (dC (.int 1))) (dC (.int 0))))))) (sRet (dC (.bl false))) sNx)
    (sSeq (sIf (bVal (d2 gEq (d2 gIx (dVar 0) (dC (.int 0))) (dC (.str ("glue" : Str))))) (sRet (dAndT (d2 gGe (d2 gIx (dVar 0) (dC (.int 2))) (dC (.int 0))) (dAndT (dCall F_is_whole (dCons (d2 gIx (dVar 0) (dC (.int 3))) dNil)) (dChain gLe gLe (dC (.int 0)) (d2 gIx (dVar 0) (dC (.int 3))) (d2 gIx (dVar 0) (dC (.int 1))))))) sNx)
    (sRet (dAndT (d2 gEq (d2 gIx (dVar 0) (dC (.int 0))) (dC (.str ("penalty" : Str)))) (dAndT (dChain gLe gLe (dC c_FORCED) (d2 gIx (dVar 0) (dC (.int 2))) (dC c_NEVER)) (d1 (gIsi "bool") (d2 gIx (dVar 0) (dC (.int 3)))))))))))
def F_is_item : List PV → FR := runD false false 1 1 den_is_item
def E_is_items_1 : Den :=
  (dVar 1)
def T_is_items_1 : DenB :=
  (bNot (bTru (dCall F_is_item (dCons (dVar 1) dNil))))
def E_is_items_2 : Den :=
  (dVar 1)
def T_is_items_2 : DenB :=
  (bVal (d2 gEq (d2 gIx (dVar 1) (dC (.int 0))) (dC (.str ("box" : Str)))))
def den_is_items : DenS :=
  (sSeq (sIf (bOr (bNot (bTruV 0)) (bTru (dLc [1] (iSeq (dVar 0)) (gName 1) T_is_items_1 E_is_items_1))) (sRet (dC (.bl false))) sNx)
    (sSeq (sIf (bOr (bVal (d2 gNe (d2 gIx (d2 gIx (dVar 0) (dNeg (dC (.int 1)))) (dC (.int 0))) (dC (.str ("penalty" : Str))))) (bVal (d2 gNe (d2 gIx (d2 gIx (dVar 0) (dNeg (dC (.int 1)))) (dC (.int 2))) (dC c_FORCED)))) (sRet (dC (.bl false))) sNx)
    (sRet (d2 gGt (dN gLenN (dCons (dLc [1] (iSeq (dVar 0)) (gName 1) T_is_items_2 E_is_items_2) dNil)) (dC (.int 0))))))
def F_is_items : List PV → FR := runD false false 1 2 den_is_items
def den_check_items : DenS :=
  (sIf (bNot (bTru (dCall F_is_items (dCons (dVar 0) dNil)))) (sRaise ("InvalidItems" : Str) "what" (dC (.str ("form" : Str)))) sNx)
def F_check_items : List PV → FR := runD false false 1 1 den_check_items
def E_check_paragraph_1 : Den :=
  (dVar 2)
def T_check_paragraph_1 : DenB :=
  (bVal (d2 gLt (dVar 2) (dC (.int 1))))
def den_check_paragraph : DenS :=
  (sSeq (sExpr (dCall F_check_items (dCons (dVar 0) dNil)))
    (sSeq (sIf (bOr (bNot (bTruV 1)) (bTru (dLc [2] (iSeq (dVar 1)) (gName 2) T_check_paragraph_1 E_check_paragraph_1))) (sRaise ("InvalidLength" : Str) "what" (dC (.str ("widths" : Str)))) sNx)
    (sIf (bVal (d2 gGt (dN gLenN (dCons (dVar 0) dNil)) (dC c_MOST_ITEMS))) (sRaise ("TooMany" : Str) "what" (dC (.str ("items" : Str)))) sNx)))
def F_check_paragraph : List PV → FR := runD false false 2 3 den_check_paragraph
def den_is_break : DenS :=
  (sSeq (sIf (bVal (d2 gEq (d2 gIx (d2 gIx (dVar 0) (dVar 1)) (dC (.int 0))) (dC (.str ("penalty" : Str))))) (sRet (d2 gLt (d2 gIx (d2 gIx (dVar 0) (dVar 1)) (dC (.int 2))) (dC c_NEVER))) sNx)
    (sRet (dAndT (d2 gEq (d2 gIx (d2 gIx (dVar 0) (dVar 1)) (dC (.int 0))) (dC (.str ("glue" : Str)))) (dAndT (d2 gGt (dVar 1) (dC (.int 0))) (d2 gEq (d2 gIx (d2 gIx (dVar 0) (dSub (dVar 1) (dC (.int 1)))) (dC (.int 0))) (dC (.str ("box" : Str))))))))
def F_is_break : List PV → FR := runD false false 2 2 den_is_break
def E_all_breaks_1 : Den :=
  (dVar 1)
def T_all_breaks_1 : DenB :=
  (bTru (dCall F_is_break (dCons (dVar 0) (dCons (dVar 1) dNil))))
def den_all_breaks : DenS :=
  (sRet (dLc [1] (iR1 (dCons (dN gLenN (dCons (dVar 0) dNil)) dNil)) (gName 1) T_all_breaks_1 E_all_breaks_1))
def F_all_breaks : List PV → FR := runD false false 1 2 den_all_breaks
def den_is_forced : DenS :=
  (sRet (dAndT (d2 gEq (d2 gIx (d2 gIx (dVar 0) (dVar 1)) (dC (.int 0))) (dC (.str ("penalty" : Str)))) (d2 gEq (d2 gIx (d2 gIx (dVar 0) (dVar 1)) (dC (.int 2))) (dC c_FORCED))))
def F_is_forced : List PV → FR := runD false false 2 2 den_is_forced
def E_line_between_1 : Den :=
  (dVar 4)
def T_line_between_1 : DenB :=
  (bTru (dCall F_is_forced (dCons (dVar 0) (dCons (dVar 4) dNil))))
def B_line_between_2 : DenS :=
  (sSet 3 (dSl gSl (dVar 3) (oSome (dC (.int 1))) oNone))
def den_line_between : DenS :=
  (sSeq (sSet 3 (dN gListOf (dCons (dSl gSl (dVar 0) (oSome (dAdd (dVar 1) (dC (.int 1)))) (oSome (dVar 2))) dNil)))
    (sSeq (sIf (bTru (dLc [4] (iR2 (dCons (dAdd (dVar 1) (dC (.int 1))) (dCons (dVar 2) dNil))) (gName 4) T_line_between_1 E_line_between_1)) (sRet (dC .non)) sNx)
    (sSeq (sWhile (muLen 3) (bAnd (bTruV 3) (bVal (d2 gNe (d2 gIx (d2 gIx (dVar 3) (dC (.int 0))) (dC (.int 0))) (dC (.str ("box" : Str)))))) B_line_between_2)
    (sRet (dIf (bTruV 3) (dVar 3) (dC .non))))))
def F_line_between : List PV → FR := runD false false 3 5 den_line_between
def E_sums_of_1 : Den :=
  (d2 gIx (dVar 5) (dC (.int 1)))
def T_sums_of_1 : DenB :=
  (bVal (d2 gNe (d2 gIx (dVar 5) (dC (.int 0))) (dC (.str ("penalty" : Str)))))
def E_sums_of_2 : Den :=
  (dVar 5)
def T_sums_of_2 : DenB :=
  (bVal (d2 gEq (d2 gIx (dVar 5) (dC (.int 0))) (dC (.str ("glue" : Str)))))
def E_sums_of_3 : Den :=
  (d2 gIx (dVar 5) (dC (.int 3)))
def E_sums_of_4 : Den :=
  (d2 gIx (dVar 5) (dC (.int 2)))
def den_sums_of : DenS :=
  (sSeq (sSet 3 (dN gSumN (dCons (dLc [5] (iSeq (dVar 1)) (gName 5) T_sums_of_1 E_sums_of_1) dNil)))
    (sSeq (sIf (bVal (d2 gEq (d2 gIx (d2 gIx (dVar 0) (dVar 2)) (dC (.int 0))) (dC (.str ("penalty" : Str))))) (sAug 3 gAugAdd (d2 gIx (d2 gIx (dVar 0) (dVar 2)) (dC (.int 1)))) sNx)
    (sSeq (sSet 4 (dLc [5] (iSeq (dVar 1)) (gName 5) T_sums_of_2 E_sums_of_2))
    (sRet (dTup (dCons (dVar 3) (dCons (dN gSumN (dCons (dLc [5] (iSeq (dVar 4)) (gName 5) bYes E_sums_of_4) dNil)) (dCons (dN gSumN (dCons (dLc [5] (iSeq (dVar 4)) (gName 5) bYes E_sums_of_3) dNil)) dNil))))))))
def F_sums_of : List PV → FR := runD false false 3 6 den_sums_of
def den_badness : DenS :=
  (sSeq (sSet 4 (dSub (dVar 3) (dVar 0)))
    (sSeq (sIf (bVal (d2 gEq (dVar 4) (dC (.int 0)))) (sRet (dC (.int 0))) sNx)
    (sSeq (sIf (bVal (d2 gGt (dVar 4) (dC (.int 0)))) (sRet (dIf (bVal (d2 gEq (dVar 1) (dC (.int 0)))) (dC c_WORST) (dN gMin2 (dCons (dC c_WORST) (dCons (dFdivW (dMul (dMul (dMul (dC (.int 100)) (dVar 4)) (dVar 4)) (dVar 4)) (dMul (dMul (dVar 1) (dVar 1)) (dVar 1))) dNil))))) sNx)
    (sSeq (sIf (bVal (d2 gGt (dNeg (dVar 4)) (dVar 2))) (sRet (dC .non)) sNx)
    (sRet (dFdivW (dMul (dMul (dMul (dC (.int 100)) (dNeg (dVar 4))) (dVar 4)) (dVar 4)) (dMul (dMul (dVar 2) (dVar 2)) (dVar 2))))))))
def F_badness : List PV → FR := runD false false 4 5 den_badness
def den_has_flag : DenS :=
  (sRet (dAndT (d2 gGe (dVar 1) (dC (.int 0))) (dAndT (d2 gEq (d2 gIx (d2 gIx (dVar 0) (dVar 1)) (dC (.int 0))) (dC (.str ("penalty" : Str)))) (d2 gIx (d2 gIx (dVar 0) (dVar 1)) (dC (.int 3))))))
def F_has_flag : List PV → FR := runD false false 2 2 den_has_flag
def den_demerits_of : DenS :=
  (sSeq (sSet 4 (dCall F_line_between (dCons (dVar 0) (dCons (dVar 1) (dCons (dVar 2) dNil)))))
    (sSeq (sIf (bVal (d2 (gIsN false) (dVar 4) (dC .non))) (sRet (dC .non)) sNx)
    (sSeq (sAsg (dCall F_sums_of (dCons (dVar 0) (dCons (dVar 4) (dCons (dVar 2) dNil)))) (gTup (gsCons (gName 5) (gsCons (gName 6) (gsCons (gName 7) gsNil)))))
    (sSeq (sSet 8 (dCall F_badness (dCons (dVar 5) (dCons (dVar 6) (dCons (dVar 7) (dCons (dVar 3) dNil))))))
    (sSeq (sIf (bVal (d2 (gIsN false) (dVar 8) (dC .non))) (sRet (dC .non)) sNx)
    (sSeq (sSet 9 (dMul (dAdd (dC (.int 1)) (dVar 8)) (dAdd (dC (.int 1)) (dVar 8))))
    (sSeq (sIf (bVal (d2 gEq (d2 gIx (d2 gIx (dVar 0) (dVar 2)) (dC (.int 0))) (dC (.str ("penalty" : Str))))) (sSeq (sSet 10 (d2 gIx (d2 gIx (dVar 0) (dVar 2)) (dC (.int 2))))
    (sIf (bVal (d2 gGe (dVar 10) (dC (.int 0)))) (sAug 9 gAugAdd (dMul (dVar 10) (dVar 10))) (sIf (bVal (d2 gGt (dVar 10) (dC c_FORCED))) (sAug 9 gSub (dMul (dVar 10) (dVar 10))) sNx))) sNx)
    (sSeq (sIf (bAnd (bTru (dCall F_has_flag (dCons (dVar 0) (dCons (dVar 1) dNil)))) (bTru (dCall F_has_flag (dCons (dVar 0) (dCons (dVar 2) dNil))))) (sAug 9 gAugAdd (dC c_DOUBLE)) sNx)
    (sRet (dVar 9))))))))))
def F_demerits_of : List PV → FR := runD false false 4 11 den_demerits_of
def den_width_at : DenS :=
  (sRet (d2 gIx (dVar 0) (dN gMin2 (dCons (dVar 1) (dCons (dSub (dN gLenN (dCons (dVar 0) dNil)) (dC (.int 1))) dNil)))))
def F_width_at : List PV → FR := runD false false 2 2 den_width_at
def B_next_pairs_1 : DenS :=
  (sIf (bVal (d2 gGt (dVar 7) (dVar 5))) (sSeq (sSet 8 (dCall F_demerits_of (dCons (dVar 0) (dCons (dVar 5) (dCons (dVar 7) (dCons (dCall F_width_at (dCons (dVar 2) (dCons (dVar 4) dNil))) dNil))))))
    (sIf (bVal (d2 (gIsN true) (dVar 8) (dC .non))) (sExpr (dMut "list" gAppend 6 (dCons (dTup (dCons (dTup (dCons (dAdd (dVar 4) (dC (.int 1))) (dCons (dVar 7) dNil))) (dCons (dVar 8) dNil))) dNil))) sNx)) sNx)
def den_next_pairs : DenS :=
  (sSeq (sAsg (dVar 3) (gTup (gsCons (gName 4) (gsCons (gName 5) gsNil))))
    (sSeq (sSetF 6 (dLst dNil))
    (sSeq (sFor (iSeq (dVar 1)) (gName 7) B_next_pairs_1)
    (sRet (dVar 6)))))
def F_next_pairs : List PV → FR := runD false false 4 9 den_next_pairs
def E_reached_3 : Den :=
  (dVar 10)
def T_reached_3 : DenB :=
  (bVal (d2 gEq (d2 gIx (dVar 10) (dC (.int 1))) (dVar 5)))
def B_reached_4 : DenS :=
  (sSeq (sSet 9 (dTup (dCons (dAdd (d2l gDG 3 (dVar 6)) (dVar 8)) (dCons (dAdd (d2l gDG 4 (dVar 6)) (dLst (dCons (d2 gIx (dVar 7) (dC (.int 1))) dNil))) dNil))))
    (sIf (bOr (bVal (d2r (gDHas true) (dVar 7) 3)) (bVal (d2 gLtD (dVar 9) (dTup (dCons (d2l gDG 3 (dVar 7)) (dCons (d2l gDG 4 (dVar 7)) dNil)))))) (sPut2 3 (dVar 7) 4 (dVar 7) (dVar 9)) sNx))
def B_reached_2 : DenS :=
  (sFor (iSeq (dCall F_next_pairs (dCons (dVar 0) (dCons (dVar 2) (dCons (dVar 1) (dCons (dVar 6) dNil)))))) (gTup (gsCons (gName 7) (gsCons (gName 8) gsNil))) B_reached_4)
def B_reached_1 : DenS :=
  (sFor (iSeq (dN gSortD (dCons (dLcDk [10] 3 (gName 10) T_reached_3 E_reached_3) dNil))) (gName 6) B_reached_2)
def den_reached : DenS :=
  (sSeq (sSet 2 (dCall F_all_breaks (dCons (dVar 0) dNil)))
    (sSeq (sSetF 3 (dDispT [((dTup (dCons (dC (.int 0)) (dCons (dNeg (dC (.int 1))) dNil))), (dC (.int 0)))]))
    (sSeq (sSetF 4 (dDispT [((dTup (dCons (dC (.int 0)) (dCons (dNeg (dC (.int 1))) dNil))), (dLst dNil))]))
    (sSeq (sFor (iSeq (dAdd (dLst (dCons (dNeg (dC (.int 1))) dNil)) (dVar 2))) (gName 5) B_reached_1)
    (sRet (dTup (dCons (dVar 3) (dCons (dVar 4) dNil))))))))
def F_reached : List PV → FR := runD false false 2 11 den_reached
def E_best_breaks_1 : Den :=
  (dTup (dCons (d2l gDG 2 (dVar 5)) (dCons (d2l gDG 3 (dVar 5)) dNil)))
def T_best_breaks_1 : DenB :=
  (bVal (d2 gEq (d2 gIx (dVar 5) (dC (.int 1))) (dSub (dN gLenN (dCons (dVar 0) dNil)) (dC (.int 1)))))
def E_best_breaks_2 : Den :=
  (dVar 5)
def E_best_breaks_3 : Den :=
  (d2l gDG 2 (dVar 5))
def den_best_breaks : DenS :=
  (sSeq (sExpr (dCall F_check_paragraph (dCons (dVar 0) (dCons (dVar 1) dNil))))
    (sSeq (sAsg (dCall F_reached (dCons (dVar 0) (dCons (dVar 1) dNil))) (gTup (gsCons (gName 2) (gsCons (gName 3) gsNil))))
    (sSeq (sSet 4 (dLcD [5] 2 (gName 5) T_best_breaks_1 E_best_breaks_1))
    (sSeq (sIf (bNot (bTruV 4)) (sRet (dTup (dCons (dC (.str ("stuck" : Str))) (dCons (dN gTupOf (dCons (dSortDT (dVar 2)) dNil)) dNil)))) sNx)
    (sRet (dTup (dCons (dC (.str ("breaks" : Str))) (dCons (d2 gIx (dN gMinD (dCons (dVar 4) dNil)) (dC (.int 1))) (dCons (dDc [5] (iSeq (dSortDT (dVar 2))) (gName 5) bYes E_best_breaks_2 E_best_breaks_3) dNil)))))))))
def F_best_breaks : List PV → FR := runD false false 2 6 den_best_breaks
def den_check_places : DenS :=
  (sSeq (sExpr (dCall F_check_items (dCons (dVar 0) dNil)))
    (sSeq (sSet 3 (dCall F_all_breaks (dCons (dVar 0) dNil)))
    (sIf (bOr (bAnd (bVal (d2 gNe (dVar 1) (dNeg (dC (.int 1))))) (bVal (d2 (gIn true) (dVar 1) (dVar 3)))) (bOr (bVal (d2 (gIn true) (dVar 2) (dVar 3))) (bVal (d2 gLe (dVar 2) (dVar 1))))) (sRaise ("InvalidItems" : Str) "what" (dC (.str ("breaks" : Str)))) sNx)))
def F_check_places : List PV → FR := runD false false 3 4 den_check_places
def den_line_of : DenS :=
  (sSeq (sExpr (dCall F_check_places (dCons (dVar 0) (dCons (dVar 1) (dCons (dVar 2) dNil)))))
    (sRet (dCall F_line_between (dCons (dVar 0) (dCons (dVar 1) (dCons (dVar 2) dNil))))))
def F_line_of : List PV → FR := runD false false 3 3 den_line_of
def den_measures : DenS :=
  (sSeq (sSet 3 (dCall F_line_of (dCons (dVar 0) (dCons (dVar 1) (dCons (dVar 2) dNil)))))
    (sSeq (sIf (bVal (d2 (gIsN false) (dVar 3) (dC .non))) (sRaise ("InvalidItems" : Str) "what" (dC (.str ("breaks" : Str)))) sNx)
    (sRet (dCall F_sums_of (dCons (dVar 0) (dCons (dVar 3) (dCons (dVar 2) dNil)))))))
def F_measures : List PV → FR := runD false false 3 4 den_measures
def den_fraction : DenS :=
  (sSeq (sSet 2 (dN gGcd (dCons (dVar 0) (dCons (dVar 1) dNil))))
    (sRet (dTup (dCons (dFdivW (dVar 0) (dVar 2)) (dCons (dFdivW (dVar 1) (dVar 2)) dNil)))))
def F_fraction : List PV → FR := runD false false 2 3 den_fraction
def B_set_line_1 : DenS :=
  (sIf (bVal (d2 gEq (d2 gIx (dVar 12) (dC (.int 0))) (dC (.str ("box" : Str))))) (sSeq (sExpr (dMut "list" gAppend 11 (dCons (dTup (dCons (dCall F_fraction (dCons (dVar 10) (dCons (dVar 9) dNil))) (dCons (d2 gIx (dVar 12) (dC (.int 2))) dNil))) dNil)))
    (sAug 10 gAugAdd (dMul (d2 gIx (dVar 12) (dC (.int 1))) (dVar 9)))) (sIf (bVal (d2 gEq (d2 gIx (dVar 12) (dC (.int 0))) (dC (.str ("glue" : Str))))) (sSeq (sSet 13 (dIf (bVal (d2 gGt (dVar 7) (dC (.int 0)))) (d2 gIx (dVar 12) (dC (.int 2))) (d2 gIx (dVar 12) (dC (.int 3)))))
    (sAug 10 gAugAdd (dAdd (dMul (d2 gIx (dVar 12) (dC (.int 1))) (dVar 9)) (dIf (bVal (d2 gGt (dVar 8) (dC (.int 0)))) (dMul (dVar 7) (dVar 13)) (dC (.int 0)))))) sNx))
def den_set_line : DenS :=
  (sSeq (sAsg (dCall F_measures (dCons (dVar 0) (dCons (dVar 1) (dCons (dVar 2) dNil)))) (gTup (gsCons (gName 4) (gsCons (gName 5) (gsCons (gName 6) gsNil)))))
    (sSeq (sIf (bVal (d2 (gIsN false) (dCall F_badness (dCons (dVar 4) (dCons (dVar 5) (dCons (dVar 6) (dCons (dVar 3) dNil))))) (dC .non))) (sRaise ("InvalidLength" : Str) "what" (dC (.str ("width" : Str)))) sNx)
    (sSeq (sSet 7 (dSub (dVar 3) (dVar 4)))
    (sSeq (sSet 8 (dIf (bVal (d2 gGt (dVar 7) (dC (.int 0)))) (dVar 5) (dVar 6)))
    (sSeq (sSet 9 (dIf (bVal (d2 gGt (dVar 8) (dC (.int 0)))) (dVar 8) (dC (.int 1))))
    (sSeq (sSet 10 (dC (.int 0)))
    (sSeq (sSetF 11 (dLst dNil))
    (sSeq (sFor (iSeq (dCall F_line_of (dCons (dVar 0) (dCons (dVar 1) (dCons (dVar 2) dNil))))) (gName 12) B_set_line_1)
    (sRet (dVar 11))))))))))
def F_set_line : List PV → FR := runD false false 4 14 den_set_line
def E_is_list_of_breaks_1 : Den :=
  (dVar 3)
def T_is_list_of_breaks_1 : DenB :=
  (bVal (d2 (gIn true) (dVar 3) (dVar 2)))
def den_is_list_of_breaks : DenS :=
  (sSeq (sSet 2 (dCall F_all_breaks (dCons (dVar 0) dNil)))
    (sSeq (sIf (bOr (bNot (bTruV 1)) (bOr (bTru (dLc [3] (iSeq (dVar 1)) (gName 3) T_is_list_of_breaks_1 E_is_list_of_breaks_1)) (bVal (d2 gNe (d2 gIx (dVar 1) (dNeg (dC (.int 1)))) (dSub (dN gLenN (dCons (dVar 0) dNil)) (dC (.int 1))))))) (sRet (dC (.bl false))) sNx)
    (sRet (d2 gEq (dN gListOf (dCons (dVar 1) dNil)) (dSortSet (dVar 1))))))
def F_is_list_of_breaks : List PV → FR := runD false false 2 4 den_is_list_of_breaks
def B_total_demerits_1 : DenS :=
  (sSeq (sSet 6 (dCall F_demerits_of (dCons (dVar 0) (dCons (dVar 4) (dCons (d2 gIx (dVar 2) (dVar 5)) (dCons (dCall F_width_at (dCons (dVar 1) (dCons (dVar 5) dNil))) dNil))))))
    (sSeq (sIf (bVal (d2 (gIsN false) (dVar 6) (dC .non))) (sRet (dC .non)) sNx)
    (sSeq (sAug 3 gAugAdd (dVar 6))
    (sSet 4 (d2 gIx (dVar 2) (dVar 5))))))
def den_total_demerits : DenS :=
  (sSeq (sExpr (dCall F_check_paragraph (dCons (dVar 0) (dCons (dVar 1) dNil))))
    (sSeq (sIf (bNot (bTru (dCall F_is_list_of_breaks (dCons (dVar 0) (dCons (dVar 2) dNil))))) (sRet (dC .non)) sNx)
    (sSeq (sSet 3 (dC (.int 0)))
    (sSeq (sSet 4 (dNeg (dC (.int 1))))
    (sSeq (sFor (iR1 (dCons (dN gLenN (dCons (dVar 2) dNil)) dNil)) (gName 5) B_total_demerits_1)
    (sRet (dVar 3)))))))
def F_total_demerits : List PV → FR := runD false false 3 7 den_total_demerits
def B_set_paragraph_1 : DenS :=
  (sSeq (sExpr (dMut "list" gAppend 3 (dCons (dCall F_set_line (dCons (dVar 0) (dCons (dVar 4) (dCons (d2 gIx (dVar 2) (dVar 5)) (dCons (dCall F_width_at (dCons (dVar 1) (dCons (dVar 5) dNil))) dNil))))) dNil)))
    (sSet 4 (d2 gIx (dVar 2) (dVar 5))))
def den_set_paragraph : DenS :=
  (sSeq (sIf (bVal (d2 (gIsN false) (dCall F_total_demerits (dCons (dVar 0) (dCons (dVar 1) (dCons (dVar 2) dNil)))) (dC .non))) (sRaise ("InvalidItems" : Str) "what" (dC (.str ("breaks" : Str)))) sNx)
    (sSeq (sSetF 3 (dLst dNil))
    (sSeq (sSet 4 (dNeg (dC (.int 1))))
    (sSeq (sFor (iR1 (dCons (dN gLenN (dCons (dVar 2) dNil)) dNil)) (gName 5) B_set_paragraph_1)
    (sRet (dVar 3))))))
def F_set_paragraph : List PV → FR := runD false false 3 6 den_set_paragraph
def den__law_refusal : DenS :=
  (sSeq (sTryT [(("InvalidLength" : Str), ("length" : Str)), (("InvalidItems" : Str), ("items" : Str))] "what" 5 (sIf (bVal (d2 gEq (dVar 0) (dC (.int 0)))) (sExpr (dCall F_set_line (dCons (dVar 1) (dCons (dVar 2) (dCons (dVar 3) (dCons (dVar 4) dNil)))))) (sExpr (dCall F_set_paragraph (dCons (dVar 1) (dCons (dVar 2) (dCons (dVar 3) dNil)))))))
    (sRet (dC .non)))
def F__law_refusal : List PV → FR := runD false false 5 6 den__law_refusal
abbrev F__law_plain_ := F_plain_
abbrev F__law_plain : List PV → FR := F__law_plain_ 5
def B__law_line_1 : DenS :=
  (sSeq (sSet 5 (d2 gIx (dVar 0) (dVar 4)))
    (sSeq (sIf (bAnd (bVal (d2 gEq (d2 gIx (dVar 5) (dC (.int 0))) (dC (.str ("penalty" : Str))))) (bVal (d2 gEq (d2 gIx (dVar 5) (dC (.int 2))) (dNeg (dC (.int 10000)))))) (sRet (dC .non)) sNx)
    (sIf (bOr (bVal (d2 gGt (d1v gLen 3) (dC (.int 0)))) (bVal (d2 gEq (d2 gIx (dVar 5) (dC (.int 0))) (dC (.str ("box" : Str)))))) (sExpr (dMut "list" gAppend 3 (dCons (dVar 5) dNil))) sNx)))
def den__law_line : DenS :=
  (sSeq (sSetF 3 (dLst dNil))
    (sSeq (sFor (iR2 (dCons (dAdd (dVar 1) (dC (.int 1))) (dCons (dVar 2) dNil))) (gName 4) B__law_line_1)
    (sRet (dIf (bVal (d2 gGt (d1v gLen 3) (dC (.int 0)))) (dVar 3) (dC .non)))))
def F__law_line : List PV → FR := runD false false 3 6 den__law_line
def E__law_sums_1 : Den :=
  (d2 gIx (dVar 5) (dC (.int 1)))
def T__law_sums_1 : DenB :=
  (bVal (d2 gNe (d2 gIx (dVar 5) (dC (.int 0))) (dC (.str ("penalty" : Str)))))
def E__law_sums_2 : Den :=
  (d2 gIx (dVar 5) (dC (.int 2)))
def T__law_sums_2 : DenB :=
  (bVal (d2 gEq (d2 gIx (dVar 5) (dC (.int 0))) (dC (.str ("glue" : Str)))))
def E__law_sums_3 : Den :=
  (d2 gIx (dVar 5) (dC (.int 3)))
def T__law_sums_3 : DenB :=
  (bVal (d2 gEq (d2 gIx (dVar 5) (dC (.int 0))) (dC (.str ("glue" : Str)))))
def den__law_sums : DenS :=
  (sSeq (sSet 3 (dN gSumN (dCons (dLc [5] (iSeq (dVar 1)) (gName 5) T__law_sums_1 E__law_sums_1) dNil)))
    (sSeq (sIf (bVal (d2 gEq (d2 gIx (d2 gIx (dVar 0) (dVar 2)) (dC (.int 0))) (dC (.str ("penalty" : Str))))) (sSet 3 (dAdd (dVar 3) (d2 gIx (d2 gIx (dVar 0) (dVar 2)) (dC (.int 1))))) sNx)
    (sSeq (sSet 4 (dN gSumN (dCons (dLc [5] (iSeq (dVar 1)) (gName 5) T__law_sums_2 E__law_sums_2) dNil)))
    (sRet (dTup (dCons (dVar 3) (dCons (dVar 4) (dCons (dN gSumN (dCons (dLc [5] (iSeq (dVar 1)) (gName 5) T__law_sums_3 E__law_sums_3) dNil)) dNil))))))))
def F__law_sums : List PV → FR := runD false false 3 6 den__law_sums
def den__law_badness : DenS :=
  (sSeq (sSet 4 (dSub (dVar 3) (dVar 0)))
    (sSeq (sIf (bVal (d2 gEq (dVar 4) (dC (.int 0)))) (sRet (dC (.int 0))) sNx)
    (sSeq (sIf (bVal (d2 gGt (dVar 4) (dC (.int 0)))) (sSeq (sIf (bVal (d2 gEq (dVar 1) (dC (.int 0)))) (sRet (dC (.int 10000))) sNx)
    (sRet (dN gMin2 (dCons (dC (.int 10000)) (dCons (dFdivW (dMul (dMul (dMul (dC (.int 100)) (dVar 4)) (dVar 4)) (dVar 4)) (dMul (dMul (dVar 1) (dVar 1)) (dVar 1))) dNil))))) sNx)
    (sSeq (sIf (bVal (d2 gGt (dNeg (dVar 4)) (dVar 2))) (sRet (dC .non)) sNx)
    (sRet (dFdivW (dMul (dMul (dMul (dC (.int 100)) (dNeg (dVar 4))) (dVar 4)) (dVar 4)) (dMul (dMul (dVar 2) (dVar 2)) (dVar 2))))))))
def F__law_badness : List PV → FR := runD false false 4 5 den__law_badness
def den__law_demerits : DenS :=
  (sSeq (sSet 4 (dCall F__law_line (dCons (dVar 0) (dCons (dVar 1) (dCons (dVar 2) dNil)))))
    (sSeq (sIf (bVal (d2 (gIsN false) (dVar 4) (dC .non))) (sRet (dC .non)) sNx)
    (sSeq (sAsg (dCall F__law_sums (dCons (dVar 0) (dCons (dVar 4) (dCons (dVar 2) dNil)))) (gTup (gsCons (gName 5) (gsCons (gName 6) (gsCons (gName 7) gsNil)))))
    (sSeq (sSet 8 (dCall F__law_badness (dCons (dVar 5) (dCons (dVar 6) (dCons (dVar 7) (dCons (dVar 3) dNil))))))
    (sSeq (sIf (bVal (d2 (gIsN false) (dVar 8) (dC .non))) (sRet (dC .non)) sNx)
    (sSeq (sSet 9 (dMul (dAdd (dC (.int 1)) (dVar 8)) (dAdd (dC (.int 1)) (dVar 8))))
    (sSeq (sIf (bVal (d2 gEq (d2 gIx (d2 gIx (dVar 0) (dVar 2)) (dC (.int 0))) (dC (.str ("penalty" : Str))))) (sSeq (sSet 10 (d2 gIx (d2 gIx (dVar 0) (dVar 2)) (dC (.int 2))))
    (sSeq (sIf (bVal (d2 gGe (dVar 10) (dC (.int 0)))) (sSet 9 (dAdd (dVar 9) (dMul (dVar 10) (dVar 10)))) (sIf (bVal (d2 gGt (dVar 10) (dNeg (dC (.int 10000))))) (sSet 9 (dSub (dVar 9) (dMul (dVar 10) (dVar 10)))) sNx))
    (sIf (bAnd (bVal (d2 gGe (dVar 1) (dC (.int 0)))) (bAnd (bVal (d2 gEq (d2 gIx (d2 gIx (dVar 0) (dVar 1)) (dC (.int 0))) (dC (.str ("penalty" : Str))))) (bAnd (bTru (d2 gIx (d2 gIx (dVar 0) (dVar 1)) (dC (.int 3)))) (bTru (d2 gIx (d2 gIx (dVar 0) (dVar 2)) (dC (.int 3))))))) (sSet 9 (dAdd (dVar 9) (dC (.int 3000)))) sNx))) sNx)
    (sRet (dVar 9)))))))))
def F__law_demerits : List PV → FR := runD false false 4 11 den__law_demerits
def B__law_divisor_1 : DenS :=
  (sPar 0 1 (dCons (dVar 1) (dCons (dMod (dN gInt (dCons (dVar 0) dNil)) (dVar 1)) dNil)))
def den__law_divisor : DenS :=
  (sSeq (sWhile (muI 1) (bVal (d2 gNe (dVar 1) (dC (.int 0)))) B__law_divisor_1)
    (sRet (dN gAbs (dCons (dVar 0) dNil))))
def F__law_divisor : List PV → FR := runD false false 2 2 den__law_divisor
def B__law_set_1 : DenS :=
  (sSeq (sIf (bVal (d2 gEq (d2 gIx (dVar 13) (dC (.int 0))) (dC (.str ("box" : Str))))) (sSeq (sSet 14 (dCall F__law_divisor (dCons (dVar 11) (dCons (dVar 10) dNil))))
    (sSeq (sExpr (dMut "list" gAppend 12 (dCons (dTup (dCons (dTup (dCons (dFdivW (dVar 11) (dVar 14)) (dCons (dFdivW (dVar 10) (dVar 14)) dNil))) (dCons (d2 gIx (dVar 13) (dC (.int 2))) dNil))) dNil)))
    (sSet 11 (dAdd (dVar 11) (dMul (d2 gIx (dVar 13) (dC (.int 1))) (dVar 10)))))) sNx)
    (sIf (bVal (d2 gEq (d2 gIx (dVar 13) (dC (.int 0))) (dC (.str ("glue" : Str))))) (sSeq (sSet 11 (dAdd (dVar 11) (dMul (d2 gIx (dVar 13) (dC (.int 1))) (dVar 10))))
    (sIf (bVal (d2 gGt (dVar 9) (dC (.int 0)))) (sSet 11 (dAdd (dVar 11) (dMul (dVar 8) (dIf (bVal (d2 gGt (dVar 8) (dC (.int 0)))) (d2 gIx (dVar 13) (dC (.int 2))) (d2 gIx (dVar 13) (dC (.int 3))))))) sNx)) sNx))
def den__law_set : DenS :=
  (sSeq (sSet 4 (dCall F__law_line (dCons (dVar 0) (dCons (dVar 1) (dCons (dVar 2) dNil)))))
    (sSeq (sAsg (dCall F__law_sums (dCons (dVar 0) (dCons (dVar 4) (dCons (dVar 2) dNil)))) (gTup (gsCons (gName 5) (gsCons (gName 6) (gsCons (gName 7) gsNil)))))
    (sSeq (sSet 8 (dSub (dVar 3) (dVar 5)))
    (sSeq (sSet 9 (dIf (bVal (d2 gGt (dVar 8) (dC (.int 0)))) (dVar 6) (dVar 7)))
    (sSeq (sSet 10 (dN gMax2 (dCons (dVar 9) (dCons (dC (.int 1)) dNil))))
    (sSeq (sSet 11 (dC (.int 0)))
    (sSeq (sSetF 12 (dLst dNil))
    (sSeq (sFor (iSeq (dVar 4)) (gName 13) B__law_set_1)
    (sRet (dTup (dCons (dVar 12) (dCons (dVar 11) (dCons (dVar 10) dNil)))))))))))))
def F__law_set : List PV → FR := runD false false 4 15 den__law_set
def B_law_3 : DenS :=
  (sIf (bAnd (bVal (d2 gGt (dVar 6) (dVar 5))) (bVal (d2 (gIsN true) (dCall F__law_line (dCons (dVar 3) (dCons (dVar 5) (dCons (dVar 6) dNil)))) (dC .non)))) (sSeq (sSet 7 (dAdd (dC (.int 1)) (dCallIo F__law_take 1 (dCons (dC (.int 25)) dNil))))
    (sIf (bVal (d2 (gIsN false) (dCall F__law_demerits (dCons (dVar 3) (dCons (dVar 5) (dCons (dVar 6) (dCons (dVar 7) dNil))))) (dC .non))) (sIf (bVal (d2 gNe (dCall F__law_refusal (dCons (dC (.int 0)) (dCons (dVar 3) (dCons (dVar 5) (dCons (dVar 6) (dCons (dVar 7) dNil)))))) (dTup (dCons (dC (.str ("length" : Str))) (dCons (dC (.str ("width" : Str))) dNil))))) (sRet (dC (.bl false))) sNx) (sSeq (sAsg (dCall F__law_set (dCons (dVar 3) (dCons (dVar 5) (dCons (dVar 6) (dCons (dVar 7) dNil))))) (gTup (gsCons (gName 8) (gsCons (gName 9) (gsCons (gName 10) gsNil)))))
    (sSeq (sIf (bVal (d2 gNe (dCall F__law_plain (dCons (dCall F_set_line (dCons (dVar 3) (dCons (dVar 5) (dCons (dVar 6) (dCons (dVar 7) dNil))))) dNil)) (dCall F__law_plain (dCons (dVar 8) dNil)))) (sRet (dC (.bl false))) sNx)
    (sSeq (sAsg (dCall F__law_sums (dCons (dVar 3) (dCons (dCall F__law_line (dCons (dVar 3) (dCons (dVar 5) (dCons (dVar 6) dNil)))) (dCons (dVar 6) dNil)))) (gTup (gsCons (gName 11) (gsCons (gName 12) (gsCons (gName 13) gsNil)))))
    (sSeq (sSet 14 (dIf (bVal (d2 gEq (d2 gIx (d2 gIx (dVar 3) (dVar 6)) (dC (.int 0))) (dC (.str ("penalty" : Str))))) (d2 gIx (d2 gIx (dVar 3) (dVar 6)) (dC (.int 1))) (dC (.int 0))))
    (sIf (bAnd (bOr (bVal (d2 gGe (dVar 11) (dVar 7))) (bVal (d2 gGt (dVar 12) (dC (.int 0))))) (bVal (d2 gNe (dAdd (dVar 9) (dMul (dVar 14) (dVar 10))) (dMul (dVar 7) (dVar 10))))) (sRet (dC (.bl false))) sNx))))))) sNx)
def B_law_2 : DenS :=
  (sFor (iSeq (dVar 4)) (gName 6) B_law_3)
def E_law_4 : Den :=
  (dAdd (dC (.int 4)) (dCallIo F__law_take 1 (dCons (dC (.int 12)) dNil)))
def B_law_5 : DenS :=
  (sSeq (sSet 6 (d2 gIx (d2 gIx (dVar 16) (dC (.int 1))) (dVar 18)))
    (sSeq (sExpr (dMut "list" gAppend 17 (dCons (d2 gIx (dCall F__law_set (dCons (dVar 3) (dCons (dVar 5) (dCons (dVar 6) (dCons (d2 gIx (dVar 15) (dN gMin2 (dCons (dVar 18) (dCons (dSub (dN gLenN (dCons (dVar 15) dNil)) (dC (.int 1))) dNil)))) dNil))))) (dC (.int 0))) dNil)))
    (sSet 5 (dVar 6))))
def B_law_1 : DenS :=
  (sSeq (sSet 3 (dCallIo F__law_items 1 (dCons (dC (.int 12)) dNil)))
    (sSeq (sSet 4 (dCall F__law_breaks (dCons (dVar 3) dNil)))
    (sSeq (sFor (iSeq (dAdd (dLst (dCons (dNeg (dC (.int 1))) dNil)) (dVar 4))) (gName 5) B_law_2)
    (sSeq (sSet 15 (dLc [19] (iR1 (dCons (dAdd (dC (.int 1)) (dCallIo F__law_take 1 (dCons (dC (.int 2)) dNil))) dNil)) (gName 19) bYes E_law_4))
    (sSeq (sSet 16 (dCall F_best_breaks (dCons (dVar 3) (dCons (dVar 15) dNil))))
    (sSeq (sIf (bVal (d2 gEq (d2 gIx (dVar 16) (dC (.int 0))) (dC (.str ("breaks" : Str))))) (sSeq (sSetF 17 (dLst dNil))
    (sSeq (sSet 5 (dNeg (dC (.int 1))))
    (sSeq (sFor (iR1 (dCons (dN gLenN (dCons (d2 gIx (dVar 16) (dC (.int 1))) dNil)) dNil)) (gName 18) B_law_5)
    (sIf (bVal (d2 gNe (dCall F__law_plain (dCons (dCall F_set_paragraph (dCons (dVar 3) (dCons (dVar 15) (dCons (d2 gIx (dVar 16) (dC (.int 1))) dNil)))) dNil)) (dCall F__law_plain (dCons (dVar 17) dNil)))) (sRet (dC (.bl false))) sNx)))) sNx)
    (sIf (bVal (d2 gNe (dCall F__law_refusal (dCons (dC (.int 1)) (dCons (dVar 3) (dCons (dVar 15) (dCons (dSl gSl (dVar 4) oNone (oSome (dNeg (dC (.int 1))))) (dCons (dC .non) dNil)))))) (dTup (dCons (dC (.str ("items" : Str))) (dCons (dC (.str ("breaks" : Str))) dNil))))) (sRet (dC (.bl false))) sNx)))))))
def den_law : DenS :=
  (sSeq (sSetF 1 (dCall F__law_deck (dCons (dVar 0) (dCons (dC (.int 60)) (dCons (dC (.int 14)) dNil)))))
    (sSeq (sFor (iR1 (dCons (dC (.int 2)) dNil)) (gName 2) B_law_1)
    (sRet (dC (.bl true)))))
def F_law : List PV → FR := runD false false 1 20 den_law
section
variable {P : Program} {w : World} {K : PySem.W.Frag} {mg : Str → Option Value} {base : Heap}
abbrev i_InvalidItems : Stmt := inClass (top 4) 0
theorem sc_i_InvalidItems : FnScope [("self" : Str), ("what" : Str)] [("self" : Str), ("what" : Str)] (defScope i_InvalidItems) := ⟨rfl, rfl, rfl, by decide +kernel, rfl, by decide +kernel, by decide +kernel⟩
theorem E_InvalidItems {fd : FuncData} (E : EcK K ("InvalidItems" : Str) "what") (hm : mg ("InvalidItems" : Str) = some (.ref (He.ga K ("InvalidItems" : Str)))) (T : PeK K "PressError") (hp : mg "PressError" = some (.ref (He.ga K "PressError"))) (F : FnP K "__init__" "InvalidItems.__init__" i_InvalidItems (He.ma K (He.ga K ("InvalidItems" : Str)) "__init__") fd) : Ec P w K mg base ("InvalidItems" : Str) "what" :=
  ec_ok (txt := ("invalid items: " : Str)) E hm F sc_i_InvalidItems (fun _ _ _ _ _ _ us hl => match us, hl with | [_, _], _ => rfl) (by decide) fun cdv A outer s H E =>
    pss_cons (ps_expr (pe_baseinit T rfl hp (pa_cons (pv 0) (pa_cons (pe_op op_add_str pe_str (pv 1)) pa_nil)))) (pss_one (ps_ost (pv 0) (pv 1)))
abbrev i_InvalidLength : Stmt := inClass (top 3) 0
theorem sc_i_InvalidLength : FnScope [("self" : Str), ("what" : Str)] [("self" : Str), ("what" : Str)] (defScope i_InvalidLength) := ⟨rfl, rfl, rfl, by decide +kernel, rfl, by decide +kernel, by decide +kernel⟩
theorem E_InvalidLength {fd : FuncData} (E : EcK K ("InvalidLength" : Str) "what") (hm : mg ("InvalidLength" : Str) = some (.ref (He.ga K ("InvalidLength" : Str)))) (T : PeK K "PressError") (hp : mg "PressError" = some (.ref (He.ga K "PressError"))) (F : FnP K "__init__" "InvalidLength.__init__" i_InvalidLength (He.ma K (He.ga K ("InvalidLength" : Str)) "__init__") fd) : Ec P w K mg base ("InvalidLength" : Str) "what" :=
  ec_ok (txt := ("invalid length: " : Str)) E hm F sc_i_InvalidLength (fun _ _ _ _ _ _ us hl => match us, hl with | [_, _], _ => rfl) (by decide) fun cdv A outer s H E =>
    pss_cons (ps_expr (pe_baseinit T rfl hp (pa_cons (pv 0) (pa_cons (pe_op op_add_str pe_str (pv 1)) pa_nil)))) (pss_one (ps_ost (pv 0) (pv 1)))
abbrev i_TooMany : Stmt := inClass (top 5) 0
theorem sc_i_TooMany : FnScope [("self" : Str), ("what" : Str)] [("self" : Str), ("what" : Str)] (defScope i_TooMany) := ⟨rfl, rfl, rfl, by decide +kernel, rfl, by decide +kernel, by decide +kernel⟩
theorem E_TooMany {fd : FuncData} (E : EcK K ("TooMany" : Str) "what") (hm : mg ("TooMany" : Str) = some (.ref (He.ga K ("TooMany" : Str)))) (T : PeK K "PressError") (hp : mg "PressError" = some (.ref (He.ga K "PressError"))) (F : FnP K "__init__" "TooMany.__init__" i_TooMany (He.ma K (He.ga K ("TooMany" : Str)) "__init__") fd) : Ec P w K mg base ("TooMany" : Str) "what" :=
  ec_ok (txt := ("too many " : Str)) E hm F sc_i_TooMany (fun _ _ _ _ _ _ us hl => match us, hl with | [_, _], _ => rfl) (by decide) fun cdv A outer s H E =>
    pss_cons (ps_expr (pe_baseinit T rfl hp (pa_cons (pv 0) (pa_cons (pe_op op_add_str pe_str (pv 1)) pa_nil)))) (pss_one (ps_ost (pv 0) (pv 1)))
theorem sc__law_deck : FnScope [("script" : Str), ("cells" : Str), ("each" : Str), ("deck" : Str), ("seed" : Str), ("k" : Str), ("cell" : Str), ("rest" : Str), ("at" : Str)] [("script" : Str), ("cells" : Str), ("each" : Str)] (defScope s__law_deck) := ⟨rfl, rfl, rfl, by decide +kernel, rfl, by decide +kernel, by decide +kernel⟩
theorem G__law_deck {f : Addr} {fd : FuncData} (B : Bi mg) (F : FnP K ("_law_deck" : Str) ("_law_deck" : Str) s__law_deck f fd) (hm : mg ("_law_deck" : Str) = some (.ref f)) : Fd P w K mg base ("_law_deck" : Str) 1 false true 3 F__law_deck := by
  exact fd_okD (k := 0) F hm sc__law_deck (fun _ _ _ _ _ _ us hl => match us, hl with | [_, _, _], _ => rfl) (by decide) fun cdv A outer s H E c po =>
    (dss_cons (ds_setF c 3 (df_lst da_nil))
    (dss_cons (ds_set c 4 (de_add de_int (de_len B (da_cons (de_var 0) da_nil))))
    (dss_cons (ds_for po c (di_r1 B (da_cons (de_var 1) da_nil)) (dg_name c 5) (dss_cons (ds_set c 6 de_int)
    (dss_cons (ds_if (dt_cmp cr_lt (de_var 5) (de_len B (da_cons (de_var 0) da_nil))) (dss_one (ds_set c 6 (de_ix (de_var 0) (de_var 5)))) dss_nil)
    (dss_cons (ds_set c 7 (de_abs B (da_cons (de_var 6) da_nil)))
    (dss_one (ds_if (dt_cmp cr_ge (de_var 7) (de_pow de_int de_int)) (dss_one (ds_for po c (di_r1 B (da_cons (de_var 2) da_nil)) (dg_name c 8) (dss_cons (ds_expr (de_append 3 (pv 3) (da_cons (de_mod (de_toint B (da_cons (de_var 7) da_nil)) de_int) da_nil)))
    (dss_one (ds_set c 7 (de_fdiv (de_var 7) de_int)))))) (dss_cons (ds_set c 4 (de_mod (de_toint B (da_cons (de_add (de_add (de_add (de_mul (de_var 4) de_int) (de_mul de_int (de_var 7))) (de_toint B (da_cons (de_cmp cr_lt (de_var 6) de_int) da_nil))) (de_var 5)) da_nil)) de_int))
    (dss_one (ds_for po c (di_r1 B (da_cons (de_var 2) da_nil)) (dg_name c 8) (dss_cons (ds_set c 4 (de_mod (de_toint B (da_cons (de_add (de_add (de_mul (de_var 4) de_int) (de_var 8)) de_int) da_nil)) de_int))
    (dss_one (ds_expr (de_append 3 (pv 3) (da_cons (de_mod (de_toint B (da_cons (de_fdiv (de_var 4) de_int) da_nil)) de_int) da_nil))))))))))))))
    (dss_cons (ds_expr (de_reverse 3 (pv 3)))
    (dss_one (ds_retO 3 (pv 3)))))))
theorem sc__law_take : FnScope [("deck" : Str), ("many" : Str)] [("deck" : Str), ("many" : Str)] (defScope s__law_take) := ⟨rfl, rfl, rfl, by decide +kernel, rfl, by decide +kernel, by decide +kernel⟩
theorem G__law_take {f : Addr} {fd : FuncData} (B : Bi mg) (F : FnP K ("_law_take" : Str) ("_law_take" : Str) s__law_take f fd) (hm : mg ("_law_take" : Str) = some (.ref f)) : Fd P w K mg base ("_law_take" : Str) 1 true false 2 F__law_take := by
  exact fd_okD (k := 0) F hm sc__law_take (fun _ _ _ _ _ _ us hl => match us, hl with | [_, _], _ => rfl) (by decide) fun cdv A outer s H E c po =>
    (dss_cons (ds_if (dt_cmp (cr_eq c) (de_lenv B 0 (pv 0)) de_int) (dss_one (ds_ret de_int)) dss_nil)
    (dss_one (ds_ret (de_mod (de_toint B (da_cons (de_pop 0 (pv 0)) da_nil)) (de_var 1)))))
theorem sc__law_items : FnScope [("deck" : Str), ("most" : Str), ("found" : Str), ("at" : Str), ("kind" : Str), ("width" : Str), ("cost" : Str)] [("deck" : Str), ("most" : Str)] (defScope s__law_items) := ⟨rfl, rfl, rfl, by decide +kernel, rfl, by decide +kernel, by decide +kernel⟩
theorem G__law_items {f : Addr} {fd : FuncData} (B : Bi mg) (G__law_take : Fd P w K mg base ("_law_take" : Str) 1 true false 2 F__law_take) (F : FnP K ("_law_items" : Str) ("_law_items" : Str) s__law_items f fd) (hm : mg ("_law_items" : Str) = some (.ref f)) : Fd P w K mg base ("_law_items" : Str) 2 true false 2 F__law_items := by
  exact fd_okD (k := 1) F hm sc__law_items (fun _ _ _ _ _ _ us hl => match us, hl with | [_, _], _ => rfl) (by decide) fun cdv A outer s H E c po =>
    (dss_cons (ds_setF c 2 (df_lst (da_cons (de_tup (da_cons de_str (da_cons (de_callIo G__law_take c 0 (pv 0) (da_cons de_int da_nil)) (da_cons de_str da_nil)))) da_nil)))
    (dss_cons (ds_for po c (di_r2 B (da_cons de_int (da_cons (de_add de_int (de_callIo G__law_take c 0 (pv 0) (da_cons (de_var 1) da_nil))) da_nil))) (dg_name c 3) (dss_cons (ds_set c 4 (de_callIo G__law_take c 0 (pv 0) (da_cons de_int da_nil)))
    (dss_one (ds_if (dt_cmp cr_lt (de_var 4) de_int) (dss_one (ds_expr (de_append 2 (pv 2) (da_cons (de_tup (da_cons de_str (da_cons (de_callIo G__law_take c 0 (pv 0) (da_cons de_int da_nil)) (da_cons (de_add de_str (de_ix de_str (de_mod (de_var 3) de_int))) da_nil)))) da_nil)))) (dss_one (ds_if (dt_cmp cr_lt (de_var 4) de_int) (dss_cons (ds_set c 5 (de_callIo G__law_take c 0 (pv 0) (da_cons de_int da_nil)))
    (dss_one (ds_expr (de_append 2 (pv 2) (da_cons (de_tup (da_cons de_str (da_cons (de_var 5) (da_cons (de_callIo G__law_take c 0 (pv 0) (da_cons de_int da_nil)) (da_cons (de_callIo G__law_take c 0 (pv 0) (da_cons (de_add (de_var 5) de_int) da_nil)) da_nil))))) da_nil))))) (dss_cons (ds_set c 6 (de_ix (DF.sh (df_lst (da_cons de_int (da_cons de_int (da_cons (de_neg de_int) (da_cons de_int (da_cons (de_neg de_int) (da_cons de_int da_nil)))))))) (de_callIo G__law_take c 0 (pv 0) (da_cons de_int da_nil))))
    (dss_one (ds_expr (de_append 2 (pv 2) (da_cons (de_tup (da_cons de_str (da_cons (de_callIo G__law_take c 0 (pv 0) (da_cons de_int da_nil)) (da_cons (de_var 6) (da_cons (de_cmp (cr_eq c) (de_callIo G__law_take c 0 (pv 0) (da_cons de_int da_nil)) de_int) da_nil))))) da_nil)))))))))))
    (dss_cons (ds_if (dt_cmp cr_gt (de_callIo G__law_take c 0 (pv 0) (da_cons de_int da_nil)) de_int) (dss_one (ds_setF c 2 (df_cat (de_var 2) (DF.sh (df_lst (da_cons (de_tup (da_cons de_str (da_cons de_int (da_cons de_int (da_cons de_bl da_nil))))) (da_cons (de_tup (da_cons de_str (da_cons de_int (da_cons de_int (da_cons de_int da_nil))))) da_nil))))))) dss_nil)
    (dss_one (ds_ret (de_add (de_var 2) (DF.sh (df_lst (da_cons (de_tup (da_cons de_str (da_cons de_int (da_cons (de_neg de_int) (da_cons de_bl da_nil))))) da_nil)))))))))
theorem sc__law_breaks : FnScope [("items" : Str), ("found" : Str), ("at" : Str), ("item" : Str)] [("items" : Str)] (defScope s__law_breaks) := ⟨rfl, rfl, rfl, by decide +kernel, rfl, by decide +kernel, by decide +kernel⟩
theorem G__law_breaks {f : Addr} {fd : FuncData} (B : Bi mg) (F : FnP K ("_law_breaks" : Str) ("_law_breaks" : Str) s__law_breaks f fd) (hm : mg ("_law_breaks" : Str) = some (.ref f)) : Fd P w K mg base ("_law_breaks" : Str) 1 false false 1 F__law_breaks := by
  exact fd_okD (k := 0) F hm sc__law_breaks (fun _ _ _ _ _ _ us hl => match us, hl with | [_], _ => rfl) (by decide) fun cdv A outer s H E c po =>
    (dss_cons (ds_setF c 1 (df_lst da_nil))
    (dss_cons (ds_for po c (di_r1 B (da_cons (de_len B (da_cons (de_var 0) da_nil)) da_nil)) (dg_name c 2) (dss_cons (ds_set c 3 (de_ix (de_var 0) (de_var 2)))
    (dss_cons (ds_if (dt_w (dw_and (dt_cmp (cr_eq c) (de_ix (de_var 3) de_int) de_str) (dw_and1 (dt_cmp cr_lt (de_ix (de_var 3) de_int) de_int)))) (dss_one (ds_expr (de_append 1 (pv 1) (da_cons (de_var 2) da_nil)))) dss_nil)
    (dss_one (ds_if (dt_w (dw_and (dt_cmp (cr_eq c) (de_ix (de_var 3) de_int) de_str) (dw_and (dt_cmp cr_gt (de_var 2) de_int) (dw_and1 (dt_cmp (cr_eq c) (de_ix (de_ix (de_var 0) (de_sub (de_var 2) de_int)) de_int) de_str))))) (dss_one (ds_expr (de_append 1 (pv 1) (da_cons (de_var 2) da_nil)))) dss_nil)))))
    (dss_one (ds_ret (de_var 1)))))
theorem sc_is_whole : FnScope [("value" : Str)] [("value" : Str)] (defScope s_is_whole) := ⟨rfl, rfl, rfl, by decide +kernel, rfl, by decide +kernel, by decide +kernel⟩
theorem G_is_whole {f : Addr} {fd : FuncData} (B : Bi mg) (F : FnP K ("is_whole" : Str) ("is_whole" : Str) s_is_whole f fd) (hm : mg ("is_whole" : Str) = some (.ref f)) : Fd P w K mg base ("is_whole" : Str) 1 false false 1 F_is_whole := by
  exact fd_okD (k := 0) F hm sc_is_whole (fun _ _ _ _ _ _ us hl => match us, hl with | [_], _ => rfl) (by decide) fun cdv A outer s H E c po =>
    (dss_one (ds_ret (de_and (de_isi "int" B (de_var 0) B.int (by decide +kernel)) (de_oneA (de_not (de_isi "bool" B (de_var 0) B.bool (by decide +kernel)))))))
theorem sc_is_item : FnScope [("item" : Str)] [("item" : Str)] (defScope s_is_item) := ⟨rfl, rfl, rfl, by decide +kernel, rfl, by decide +kernel, by decide +kernel⟩
theorem G_is_item {f : Addr} {fd : FuncData} (B : Bi mg) (h_FORCED : ∃ t, mg ("FORCED" : Str) = some (.int (-10000) t)) (h_NEVER : ∃ t, mg ("NEVER" : Str) = some (.int (10000) t)) (G_is_whole : Fd P w K mg base ("is_whole" : Str) 1 false false 1 F_is_whole) (F : FnP K ("is_item" : Str) ("is_item" : Str) s_is_item f fd) (hm : mg ("is_item" : Str) = some (.ref f)) : Fd P w K mg base ("is_item" : Str) 2 false false 1 F_is_item := by
  obtain ⟨t_FORCED, h_FORCED⟩ := h_FORCED
  obtain ⟨t_NEVER, h_NEVER⟩ := h_NEVER
  exact fd_okD (k := 1) F hm sc_is_item (fun _ _ _ _ _ _ us hl => match us, hl with | [_], _ => rfl) (by decide) fun cdv A outer s H E c po =>
    (dss_cons (ds_if (dt_w (dw_or (dt_not (dt_tru (de_isi "tuple" B (de_var 0) B.tuple (by decide +kernel)))) (dw_or1 (dt_not (dt_truv 0 (pv 0)))))) (dss_one (ds_ret de_bl)) dss_nil)
    (dss_cons (ds_if (dt_cmp (cr_eq c) (de_ix (de_var 0) de_int) de_str) (dss_one (ds_ret (de_and (de_cmp (cr_eq c) (de_len B (da_cons (de_var 0) da_nil)) de_int) (de_and (de_call G_is_whole c (da_cons (de_ix (de_var 0) de_int) da_nil)) (de_and (de_cmp cr_ge (de_ix (de_var 0) de_int) de_int) (de_oneA (de_isi "str" B (de_ix (de_var 0) de_int) B.str (by decide +kernel)))))))) dss_nil)
    (dss_cons (ds_if (dt_w (dw_or (dt_cmp (cr_ne c) (de_len B (da_cons (de_var 0) da_nil)) de_int) (dw_or (dt_not (dt_tru (de_call G_is_whole c (da_cons (de_ix (de_var 0) de_int) da_nil)))) (dw_or (dt_not (dt_tru (de_call G_is_whole c (da_cons (de_ix (de_var 0) de_int) da_nil)))) (dw_or1 (dt_cmp cr_lt (de_ix (de_var 0) de_int) de_int)))))) (dss_one (ds_ret de_bl)) dss_nil)
    (dss_cons (ds_if (dt_cmp (cr_eq c) (de_ix (de_var 0) de_int) de_str) (dss_one (ds_ret (de_and (de_cmp cr_ge (de_ix (de_var 0) de_int) de_int) (de_and (de_call G_is_whole c (da_cons (de_ix (de_var 0) de_int) da_nil)) (de_oneA (de_chain cr_le cr_le de_int (de_ix (de_var 0) de_int) (de_ix (de_var 0) de_int))))))) dss_nil)
    (dss_one (ds_ret (de_and (de_cmp (cr_eq c) (de_ix (de_var 0) de_int) de_str) (de_and (de_chain cr_le cr_le (de_glob (v := .int (-10000)) h_FORCED ⟨t_FORCED, rfl⟩ fun _ => .int _) (de_ix (de_var 0) de_int) (de_glob (v := .int (10000)) h_NEVER ⟨t_NEVER, rfl⟩ fun _ => .int _)) (de_oneA (de_isi "bool" B (de_ix (de_var 0) de_int) B.bool (by decide +kernel)))))))))))
theorem sc_is_items : FnScope [("items" : Str), ("item" : Str)] [("items" : Str)] (defScope s_is_items) := ⟨rfl, rfl, rfl, by decide +kernel, rfl, by decide +kernel, by decide +kernel⟩
theorem G_is_items {f : Addr} {fd : FuncData} (B : Bi mg) (h_FORCED : ∃ t, mg ("FORCED" : Str) = some (.int (-10000) t)) (G_is_item : Fd P w K mg base ("is_item" : Str) 2 false false 1 F_is_item) (F : FnP K ("is_items" : Str) ("is_items" : Str) s_is_items f fd) (hm : mg ("is_items" : Str) = some (.ref f)) : Fd P w K mg base ("is_items" : Str) 3 false false 1 F_is_items := by
  obtain ⟨t_FORCED, h_FORCED⟩ := h_FORCED
  exact fd_okD (k := 2) F hm sc_is_items (fun _ _ _ _ _ _ us hl => match us, hl with | [_], _ => rfl) (by decide) fun cdv A outer s H E c po =>
    (dss_cons (ds_if (dt_w (dw_or (dt_not (dt_truv 0 (pv 0))) (dw_or1 (dt_tru (DF.sh (df_lc [(("item" : Str), 1)] c (di_seq (de_var 0)) (lg_name 1) (fun _ _ _ _ _ => (dg_name c.blk 1)) (fun _ _ _ _ _ => (dts_one (dt_not (dt_tru (de_call G_is_item c.blk (da_cons (de_var 1) da_nil)))))) (fun _ _ _ _ _ => (de_var 1)) (ok := blkOk_by (N := [("items" : Str), ("item" : Str)]) (sc := defScope s_is_items) (by decide +kernel)))))))) (dss_one (ds_ret de_bl)) dss_nil)
    (dss_cons (ds_if (dt_w (dw_or (dt_cmp (cr_ne c) (de_ix (de_ix (de_var 0) (de_neg de_int)) de_int) de_str) (dw_or1 (dt_cmp (cr_ne c) (de_ix (de_ix (de_var 0) (de_neg de_int)) de_int) (de_glob (v := .int (-10000)) h_FORCED ⟨t_FORCED, rfl⟩ fun _ => .int _))))) (dss_one (ds_ret de_bl)) dss_nil)
    (dss_one (ds_ret (de_cmp cr_gt (de_len B (da_cons (DF.sh (df_lc [(("item" : Str), 1)] c (di_seq (de_var 0)) (lg_name 1) (fun _ _ _ _ _ => (dg_name c.blk 1)) (fun _ _ _ _ _ => (dts_one (dt_cmp (cr_eq c.blk) (de_ix (de_var 1) de_int) de_str))) (fun _ _ _ _ _ => (de_var 1)) (ok := blkOk_by (N := [("items" : Str), ("item" : Str)]) (sc := defScope s_is_items) (by decide +kernel)))) da_nil)) de_int)))))
theorem sc_check_items : FnScope [("items" : Str)] [("items" : Str)] (defScope s_check_items) := ⟨rfl, rfl, rfl, by decide +kernel, rfl, by decide +kernel, by decide +kernel⟩
theorem G_check_items {f : Addr} {fd : FuncData} (B : Bi mg) (E_InvalidItems : Ec P w K mg base ("InvalidItems" : Str) "what") (G_is_items : Fd P w K mg base ("is_items" : Str) 3 false false 1 F_is_items) (F : FnP K ("check_items" : Str) ("check_items" : Str) s_check_items f fd) (hm : mg ("check_items" : Str) = some (.ref f)) : Fd P w K mg base ("check_items" : Str) 4 false false 1 F_check_items := by
  exact fd_okD (k := 3) F hm sc_check_items (fun _ _ _ _ _ _ us hl => match us, hl with | [_], _ => rfl) (by decide) fun cdv A outer s H E c po =>
    (dss_one (ds_if (dt_not (dt_tru (de_call G_is_items c (da_cons (de_var 0) da_nil)))) (dss_one (ds_raise E_InvalidItems c de_str)) dss_nil))
theorem sc_check_paragraph : FnScope [("items" : Str), ("widths" : Str), ("width" : Str)] [("items" : Str), ("widths" : Str)] (defScope s_check_paragraph) := ⟨rfl, rfl, rfl, by decide +kernel, rfl, by decide +kernel, by decide +kernel⟩
theorem G_check_paragraph {f : Addr} {fd : FuncData} (B : Bi mg) (h_MOST_ITEMS : ∃ t, mg ("MOST_ITEMS" : Str) = some (.int (400) t)) (E_InvalidLength : Ec P w K mg base ("InvalidLength" : Str) "what") (E_TooMany : Ec P w K mg base ("TooMany" : Str) "what") (G_check_items : Fd P w K mg base ("check_items" : Str) 4 false false 1 F_check_items) (F : FnP K ("check_paragraph" : Str) ("check_paragraph" : Str) s_check_paragraph f fd) (hm : mg ("check_paragraph" : Str) = some (.ref f)) : Fd P w K mg base ("check_paragraph" : Str) 5 false false 2 F_check_paragraph := by
  obtain ⟨t_MOST_ITEMS, h_MOST_ITEMS⟩ := h_MOST_ITEMS
  exact fd_okD (k := 4) F hm sc_check_paragraph (fun _ _ _ _ _ _ us hl => match us, hl with | [_, _], _ => rfl) (by decide) fun cdv A outer s H E c po =>
    (dss_cons (ds_expr (de_call G_check_items c (da_cons (de_var 0) da_nil)))
    (dss_cons (ds_if (dt_w (dw_or (dt_not (dt_truv 1 (pv 1))) (dw_or1 (dt_tru (DF.sh (df_lc [(("width" : Str), 2)] c (di_seq (de_var 1)) (lg_name 2) (fun _ _ _ _ _ => (dg_name c.blk 2)) (fun _ _ _ _ _ => (dts_one (dt_cmp cr_lt (de_var 2) de_int))) (fun _ _ _ _ _ => (de_var 2)) (ok := blkOk_by (N := [("items" : Str), ("widths" : Str), ("width" : Str)]) (sc := defScope s_check_paragraph) (by decide +kernel)))))))) (dss_one (ds_raise E_InvalidLength c de_str)) dss_nil)
    (dss_one (ds_if (dt_cmp cr_gt (de_len B (da_cons (de_var 0) da_nil)) (de_glob (v := .int (400)) h_MOST_ITEMS ⟨t_MOST_ITEMS, rfl⟩ fun _ => .int _)) (dss_one (ds_raise E_TooMany c de_str)) dss_nil))))
theorem sc_is_break : FnScope [("items" : Str), ("at" : Str)] [("items" : Str), ("at" : Str)] (defScope s_is_break) := ⟨rfl, rfl, rfl, by decide +kernel, rfl, by decide +kernel, by decide +kernel⟩
theorem G_is_break {f : Addr} {fd : FuncData} (B : Bi mg) (h_NEVER : ∃ t, mg ("NEVER" : Str) = some (.int (10000) t)) (F : FnP K ("is_break" : Str) ("is_break" : Str) s_is_break f fd) (hm : mg ("is_break" : Str) = some (.ref f)) : Fd P w K mg base ("is_break" : Str) 1 false false 2 F_is_break := by
  obtain ⟨t_NEVER, h_NEVER⟩ := h_NEVER
  exact fd_okD (k := 0) F hm sc_is_break (fun _ _ _ _ _ _ us hl => match us, hl with | [_, _], _ => rfl) (by decide) fun cdv A outer s H E c po =>
    (dss_cons (ds_if (dt_cmp (cr_eq c) (de_ix (de_ix (de_var 0) (de_var 1)) de_int) de_str) (dss_one (ds_ret (de_cmp cr_lt (de_ix (de_ix (de_var 0) (de_var 1)) de_int) (de_glob (v := .int (10000)) h_NEVER ⟨t_NEVER, rfl⟩ fun _ => .int _)))) dss_nil)
    (dss_one (ds_ret (de_and (de_cmp (cr_eq c) (de_ix (de_ix (de_var 0) (de_var 1)) de_int) de_str) (de_and (de_cmp cr_gt (de_var 1) de_int) (de_oneA (de_cmp (cr_eq c) (de_ix (de_ix (de_var 0) (de_sub (de_var 1) de_int)) de_int) de_str)))))))
theorem sc_all_breaks : FnScope [("items" : Str), ("at" : Str)] [("items" : Str)] (defScope s_all_breaks) := ⟨rfl, rfl, rfl, by decide +kernel, rfl, by decide +kernel, by decide +kernel⟩
theorem G_all_breaks {f : Addr} {fd : FuncData} (B : Bi mg) (G_is_break : Fd P w K mg base ("is_break" : Str) 1 false false 2 F_is_break) (F : FnP K ("all_breaks" : Str) ("all_breaks" : Str) s_all_breaks f fd) (hm : mg ("all_breaks" : Str) = some (.ref f)) : Fd P w K mg base ("all_breaks" : Str) 2 false false 1 F_all_breaks := by
  exact fd_okD (k := 1) F hm sc_all_breaks (fun _ _ _ _ _ _ us hl => match us, hl with | [_], _ => rfl) (by decide) fun cdv A outer s H E c po =>
    (dss_one (ds_ret (DF.sh (df_lc [(("at" : Str), 1)] c (di_r1 B (da_cons (de_len B (da_cons (de_var 0) da_nil)) da_nil)) (lg_name 1) (fun _ _ _ _ _ => (dg_name c.blk 1)) (fun _ _ _ _ _ => (dts_one (dt_tru (de_call G_is_break c.blk (da_cons (de_var 0) (da_cons (de_var 1) da_nil)))))) (fun _ _ _ _ _ => (de_var 1)) (ok := blkOk_by (N := [("items" : Str), ("at" : Str)]) (sc := defScope s_all_breaks) (by decide +kernel))))))
theorem sc_is_forced : FnScope [("items" : Str), ("at" : Str)] [("items" : Str), ("at" : Str)] (defScope s_is_forced) := ⟨rfl, rfl, rfl, by decide +kernel, rfl, by decide +kernel, by decide +kernel⟩
theorem G_is_forced {f : Addr} {fd : FuncData} (B : Bi mg) (h_FORCED : ∃ t, mg ("FORCED" : Str) = some (.int (-10000) t)) (F : FnP K ("is_forced" : Str) ("is_forced" : Str) s_is_forced f fd) (hm : mg ("is_forced" : Str) = some (.ref f)) : Fd P w K mg base ("is_forced" : Str) 1 false false 2 F_is_forced := by
  obtain ⟨t_FORCED, h_FORCED⟩ := h_FORCED
  exact fd_okD (k := 0) F hm sc_is_forced (fun _ _ _ _ _ _ us hl => match us, hl with | [_, _], _ => rfl) (by decide) fun cdv A outer s H E c po =>
    (dss_one (ds_ret (de_and (de_cmp (cr_eq c) (de_ix (de_ix (de_var 0) (de_var 1)) de_int) de_str) (de_oneA (de_cmp (cr_eq c) (de_ix (de_ix (de_var 0) (de_var 1)) de_int) (de_glob (v := .int (-10000)) h_FORCED ⟨t_FORCED, rfl⟩ fun _ => .int _))))))
theorem sc_line_between : FnScope [("items" : Str), ("start" : Str), ("end" : Str), ("inner" : Str), ("at" : Str)] [("items" : Str), ("start" : Str), ("end" : Str)] (defScope s_line_between) := ⟨rfl, rfl, rfl, by decide +kernel, rfl, by decide +kernel, by decide +kernel⟩
theorem G_line_between {f : Addr} {fd : FuncData} (B : Bi mg) (G_is_forced : Fd P w K mg base ("is_forced" : Str) 1 false false 2 F_is_forced) (F : FnP K ("line_between" : Str) ("line_between" : Str) s_line_between f fd) (hm : mg ("line_between" : Str) = some (.ref f)) : Fd P w K mg base ("line_between" : Str) 2 false false 3 F_line_between := by
  exact fd_okD (k := 1) F hm sc_line_between (fun _ _ _ _ _ _ us hl => match us, hl with | [_, _, _], _ => rfl) (by decide) fun cdv A outer s H E c po =>
    (dss_cons (ds_set c 3 (DF.sh (df_listOf B (da_cons (de_sl (de_var 0) (do_some (de_add (de_var 1) de_int)) (do_some (de_var 2))) da_nil))))
    (dss_cons (ds_if (dt_tru (DF.sh (df_lc [(("at" : Str), 4)] c (di_r2 B (da_cons (de_add (de_var 1) de_int) (da_cons (de_var 2) da_nil))) (lg_name 4) (fun _ _ _ _ _ => (dg_name c.blk 4)) (fun _ _ _ _ _ => (dts_one (dt_tru (de_call G_is_forced c.blk (da_cons (de_var 0) (da_cons (de_var 4) da_nil)))))) (fun _ _ _ _ _ => (de_var 4)) (ok := blkOk_by (N := [("items" : Str), ("start" : Str), ("end" : Str), ("inner" : Str), ("at" : Str)]) (sc := defScope s_line_between) (by decide +kernel))))) (dss_one (ds_ret de_non)) dss_nil)
    (dss_cons (ds_while (muLen 3) po (dt_w (dw_and (dt_truv 3 (pv 3)) (dw_and1 (dt_cmp (cr_ne c) (de_ix (de_ix (de_var 3) de_int) de_int) de_str)))) (dss_one (ds_set c 3 (de_sl (de_var 3) (do_some de_int) do_none))))
    (dss_one (ds_ret (de_if (dt_truv 3 (pv 3)) (de_var 3) de_non))))))
theorem sc_sums_of : FnScope [("items" : Str), ("line" : Str), ("end" : Str), ("natural" : Str), ("glue" : Str), ("item" : Str)] [("items" : Str), ("line" : Str), ("end" : Str)] (defScope s_sums_of) := ⟨rfl, rfl, rfl, by decide +kernel, rfl, by decide +kernel, by decide +kernel⟩
theorem G_sums_of {f : Addr} {fd : FuncData} (B : Bi mg) (F : FnP K ("sums_of" : Str) ("sums_of" : Str) s_sums_of f fd) (hm : mg ("sums_of" : Str) = some (.ref f)) : Fd P w K mg base ("sums_of" : Str) 1 false false 3 F_sums_of := by
  exact fd_okD (k := 0) F hm sc_sums_of (fun _ _ _ _ _ _ us hl => match us, hl with | [_, _, _], _ => rfl) (by decide) fun cdv A outer s H E c po =>
    (dss_cons (ds_set c 3 (de_sum c B (da_cons (DF.sh (df_lc [(("item" : Str), 5)] c (di_seq (de_var 1)) (lg_name 5) (fun _ _ _ _ _ => (dg_name c.blk 5)) (fun _ _ _ _ _ => (dts_one (dt_cmp (cr_ne c.blk) (de_ix (de_var 5) de_int) de_str))) (fun _ _ _ _ _ => (de_ix (de_var 5) de_int)) (ok := blkOk_by (N := [("items" : Str), ("line" : Str), ("end" : Str), ("natural" : Str), ("glue" : Str), ("item" : Str)]) (sc := defScope s_sums_of) (by decide +kernel)))) da_nil)))
    (dss_cons (ds_if (dt_cmp (cr_eq c) (de_ix (de_ix (de_var 0) (de_var 2)) de_int) de_str) (dss_one (ds_augAdd c 3 (de_ix (de_ix (de_var 0) (de_var 2)) de_int))) dss_nil)
    (dss_cons (ds_setLc 4 [(("item" : Str), 5)] c (di_seq (de_var 1)) (lg_name 5) (fun _ _ _ _ _ => (dg_name c.blk 5)) (fun _ _ _ _ _ => (dts_one (dt_cmp (cr_eq c.blk) (de_ix (de_var 5) de_int) de_str))) (fun _ _ _ _ _ => (de_var 5)) (ok := blkOk_by (N := [("items" : Str), ("line" : Str), ("end" : Str), ("natural" : Str), ("glue" : Str), ("item" : Str)]) (sc := defScope s_sums_of) (by decide +kernel)))
    (dss_one (ds_ret (de_tup (da_cons (de_var 3) (da_cons (de_sum c B (da_cons (DF.sh (df_lc [(("item" : Str), 5)] c (di_seq (de_var 4)) (lg_name 5) (fun _ _ _ _ _ => (dg_name c.blk 5)) (fun _ _ _ _ _ => dts_nil) (fun _ _ _ _ _ => (de_ix (de_var 5) de_int)) (ok := blkOk_by (N := [("items" : Str), ("line" : Str), ("end" : Str), ("natural" : Str), ("glue" : Str), ("item" : Str)]) (sc := defScope s_sums_of) (by decide +kernel)))) da_nil)) (da_cons (de_sum c B (da_cons (DF.sh (df_lc [(("item" : Str), 5)] c (di_seq (de_var 4)) (lg_name 5) (fun _ _ _ _ _ => (dg_name c.blk 5)) (fun _ _ _ _ _ => dts_nil) (fun _ _ _ _ _ => (de_ix (de_var 5) de_int)) (ok := blkOk_by (N := [("items" : Str), ("line" : Str), ("end" : Str), ("natural" : Str), ("glue" : Str), ("item" : Str)]) (sc := defScope s_sums_of) (by decide +kernel)))) da_nil)) da_nil)))))))))
theorem sc_badness : FnScope [("natural" : Str), ("stretch" : Str), ("shrink" : Str), ("width" : Str), ("gap" : Str)] [("natural" : Str), ("stretch" : Str), ("shrink" : Str), ("width" : Str)] (defScope s_badness) := ⟨rfl, rfl, rfl, by decide +kernel, rfl, by decide +kernel, by decide +kernel⟩
theorem G_badness {f : Addr} {fd : FuncData} (B : Bi mg) (h_WORST : ∃ t, mg ("WORST" : Str) = some (.int (10000) t)) (F : FnP K ("badness" : Str) ("badness" : Str) s_badness f fd) (hm : mg ("badness" : Str) = some (.ref f)) : Fd P w K mg base ("badness" : Str) 1 false false 4 F_badness := by
  obtain ⟨t_WORST, h_WORST⟩ := h_WORST
  exact fd_okD (k := 0) F hm sc_badness (fun _ _ _ _ _ _ us hl => match us, hl with | [_, _, _, _], _ => rfl) (by decide) fun cdv A outer s H E c po =>
    (dss_cons (ds_set c 4 (de_sub (de_var 3) (de_var 0)))
    (dss_cons (ds_if (dt_cmp (cr_eq c) (de_var 4) de_int) (dss_one (ds_ret de_int)) dss_nil)
    (dss_cons (ds_if (dt_cmp cr_gt (de_var 4) de_int) (dss_one (ds_ret (de_if (dt_cmp (cr_eq c) (de_var 1) de_int) (de_glob (v := .int (10000)) h_WORST ⟨t_WORST, rfl⟩ fun _ => .int _) (de_min2 c B (da_cons (de_glob (v := .int (10000)) h_WORST ⟨t_WORST, rfl⟩ fun _ => .int _) (da_cons (de_fdivW (de_mul (de_mul (de_mul de_int (de_var 4)) (de_var 4)) (de_var 4)) (de_mul (de_mul (de_var 1) (de_var 1)) (de_var 1))) da_nil)))))) dss_nil)
    (dss_cons (ds_if (dt_cmp cr_gt (de_neg (de_var 4)) (de_var 2)) (dss_one (ds_ret de_non)) dss_nil)
    (dss_one (ds_ret (de_fdivW (de_mul (de_mul (de_mul de_int (de_neg (de_var 4))) (de_var 4)) (de_var 4)) (de_mul (de_mul (de_var 2) (de_var 2)) (de_var 2)))))))))
theorem sc_has_flag : FnScope [("items" : Str), ("at" : Str)] [("items" : Str), ("at" : Str)] (defScope s_has_flag) := ⟨rfl, rfl, rfl, by decide +kernel, rfl, by decide +kernel, by decide +kernel⟩
theorem G_has_flag {f : Addr} {fd : FuncData} (B : Bi mg) (F : FnP K ("has_flag" : Str) ("has_flag" : Str) s_has_flag f fd) (hm : mg ("has_flag" : Str) = some (.ref f)) : Fd P w K mg base ("has_flag" : Str) 1 false false 2 F_has_flag := by
  exact fd_okD (k := 0) F hm sc_has_flag (fun _ _ _ _ _ _ us hl => match us, hl with | [_, _], _ => rfl) (by decide) fun cdv A outer s H E c po =>
    (dss_one (ds_ret (de_and (de_cmp cr_ge (de_var 1) de_int) (de_and (de_cmp (cr_eq c) (de_ix (de_ix (de_var 0) (de_var 1)) de_int) de_str) (de_oneA (de_ix (de_ix (de_var 0) (de_var 1)) de_int))))))
theorem sc_demerits_of : FnScope [("items" : Str), ("start" : Str), ("end" : Str), ("width" : Str), ("line" : Str), ("natural" : Str), ("stretch" : Str), ("shrink" : Str), ("bad" : Str), ("found" : Str), ("cost" : Str)] [("items" : Str), ("start" : Str), ("end" : Str), ("width" : Str)] (defScope s_demerits_of) := ⟨rfl, rfl, rfl, by decide +kernel, rfl, by decide +kernel, by decide +kernel⟩
theorem G_demerits_of {f : Addr} {fd : FuncData} (B : Bi mg) (h_DOUBLE : ∃ t, mg ("DOUBLE" : Str) = some (.int (3000) t)) (h_FORCED : ∃ t, mg ("FORCED" : Str) = some (.int (-10000) t)) (G_line_between : Fd P w K mg base ("line_between" : Str) 2 false false 3 F_line_between) (G_sums_of : Fd P w K mg base ("sums_of" : Str) 1 false false 3 F_sums_of) (G_badness : Fd P w K mg base ("badness" : Str) 1 false false 4 F_badness) (G_has_flag : Fd P w K mg base ("has_flag" : Str) 1 false false 2 F_has_flag) (F : FnP K ("demerits_of" : Str) ("demerits_of" : Str) s_demerits_of f fd) (hm : mg ("demerits_of" : Str) = some (.ref f)) : Fd P w K mg base ("demerits_of" : Str) 3 false false 4 F_demerits_of := by
  obtain ⟨t_DOUBLE, h_DOUBLE⟩ := h_DOUBLE
  obtain ⟨t_FORCED, h_FORCED⟩ := h_FORCED
  exact fd_okD (k := 2) F hm sc_demerits_of (fun _ _ _ _ _ _ us hl => match us, hl with | [_, _, _, _], _ => rfl) (by decide) fun cdv A outer s H E c po =>
    (dss_cons (ds_set c 4 (de_call G_line_between c (da_cons (de_var 0) (da_cons (de_var 1) (da_cons (de_var 2) da_nil)))))
    (dss_cons (ds_if (dt_cmp cr_is (de_var 4) de_non) (dss_one (ds_ret de_non)) dss_nil)
    (dss_cons (ds_asg (de_call G_sums_of c (da_cons (de_var 0) (da_cons (de_var 4) (da_cons (de_var 2) da_nil)))) (dg_tup c (dgs_cons (dg_name c 5) (dgs_cons (dg_name c 6) (dgs_cons (dg_name c 7) dgs_nil)))))
    (dss_cons (ds_set c 8 (de_call G_badness c (da_cons (de_var 5) (da_cons (de_var 6) (da_cons (de_var 7) (da_cons (de_var 3) da_nil))))))
    (dss_cons (ds_if (dt_cmp cr_is (de_var 8) de_non) (dss_one (ds_ret de_non)) dss_nil)
    (dss_cons (ds_set c 9 (de_mul (de_add de_int (de_var 8)) (de_add de_int (de_var 8))))
    (dss_cons (ds_if (dt_cmp (cr_eq c) (de_ix (de_ix (de_var 0) (de_var 2)) de_int) de_str) (dss_cons (ds_set c 10 (de_ix (de_ix (de_var 0) (de_var 2)) de_int))
    (dss_one (ds_if (dt_cmp cr_ge (de_var 10) de_int) (dss_one (ds_augAdd c 9 (de_mul (de_var 10) (de_var 10)))) (dss_one (ds_if (dt_cmp cr_gt (de_var 10) (de_glob (v := .int (-10000)) h_FORCED ⟨t_FORCED, rfl⟩ fun _ => .int _)) (dss_one (ds_augSub c 9 (de_mul (de_var 10) (de_var 10)))) dss_nil))))) dss_nil)
    (dss_cons (ds_if (dt_w (dw_and (dt_tru (de_call G_has_flag c (da_cons (de_var 0) (da_cons (de_var 1) da_nil)))) (dw_and1 (dt_tru (de_call G_has_flag c (da_cons (de_var 0) (da_cons (de_var 2) da_nil))))))) (dss_one (ds_augAdd c 9 (de_glob (v := .int (3000)) h_DOUBLE ⟨t_DOUBLE, rfl⟩ fun _ => .int _))) dss_nil)
    (dss_one (ds_ret (de_var 9)))))))))))
theorem sc_width_at : FnScope [("widths" : Str), ("many" : Str)] [("widths" : Str), ("many" : Str)] (defScope s_width_at) := ⟨rfl, rfl, rfl, by decide +kernel, rfl, by decide +kernel, by decide +kernel⟩
theorem G_width_at {f : Addr} {fd : FuncData} (B : Bi mg) (F : FnP K ("width_at" : Str) ("width_at" : Str) s_width_at f fd) (hm : mg ("width_at" : Str) = some (.ref f)) : Fd P w K mg base ("width_at" : Str) 1 false false 2 F_width_at := by
  exact fd_okD (k := 0) F hm sc_width_at (fun _ _ _ _ _ _ us hl => match us, hl with | [_, _], _ => rfl) (by decide) fun cdv A outer s H E c po =>
    (dss_one (ds_ret (de_ix (de_var 0) (de_min2 c B (da_cons (de_var 1) (da_cons (de_sub (de_len B (da_cons (de_var 0) da_nil)) de_int) da_nil))))))
theorem sc_next_pairs : FnScope [("items" : Str), ("known" : Str), ("widths" : Str), ("pair" : Str), ("many" : Str), ("start" : Str), ("found" : Str), ("end" : Str), ("price" : Str)] [("items" : Str), ("known" : Str), ("widths" : Str), ("pair" : Str)] (defScope s_next_pairs) := ⟨rfl, rfl, rfl, by decide +kernel, rfl, by decide +kernel, by decide +kernel⟩
theorem G_next_pairs {f : Addr} {fd : FuncData} (B : Bi mg) (G_demerits_of : Fd P w K mg base ("demerits_of" : Str) 3 false false 4 F_demerits_of) (G_width_at : Fd P w K mg base ("width_at" : Str) 1 false false 2 F_width_at) (F : FnP K ("next_pairs" : Str) ("next_pairs" : Str) s_next_pairs f fd) (hm : mg ("next_pairs" : Str) = some (.ref f)) : Fd P w K mg base ("next_pairs" : Str) 4 false false 4 F_next_pairs := by
  exact fd_okD (k := 3) F hm sc_next_pairs (fun _ _ _ _ _ _ us hl => match us, hl with | [_, _, _, _], _ => rfl) (by decide) fun cdv A outer s H E c po =>
    (dss_cons (ds_asg (de_var 3) (dg_tup c (dgs_cons (dg_name c 4) (dgs_cons (dg_name c 5) dgs_nil))))
    (dss_cons (ds_setF c 6 (df_lst da_nil))
    (dss_cons (ds_for po c (di_seq (de_var 1)) (dg_name c 7) (dss_one (ds_if (dt_cmp cr_gt (de_var 7) (de_var 5)) (dss_cons (ds_set c 8 (de_call G_demerits_of c (da_cons (de_var 0) (da_cons (de_var 5) (da_cons (de_var 7) (da_cons (de_call G_width_at c (da_cons (de_var 2) (da_cons (de_var 4) da_nil))) da_nil))))))
    (dss_one (ds_if (dt_cmp cr_isNot (de_var 8) de_non) (dss_one (ds_expr (de_append 6 (pv 6) (da_cons (de_tup (da_cons (de_tup (da_cons (de_add (de_var 4) de_int) (da_cons (de_var 7) da_nil))) (da_cons (de_var 8) da_nil))) da_nil)))) dss_nil))) dss_nil)))
    (dss_one (ds_ret (de_var 6))))))
theorem sc_reached : FnScope [("items" : Str), ("widths" : Str), ("known" : Str), ("prices" : Str), ("lists" : Str), ("start" : Str), ("pair" : Str), ("goal" : Str), ("price" : Str), ("row" : Str), ("one" : Str)] [("items" : Str), ("widths" : Str)] (defScope s_reached) := ⟨rfl, rfl, rfl, by decide +kernel, rfl, by decide +kernel, by decide +kernel⟩
theorem G_reached {f : Addr} {fd : FuncData} (B : Bi mg) (G_all_breaks : Fd P w K mg base ("all_breaks" : Str) 2 false false 1 F_all_breaks) (G_next_pairs : Fd P w K mg base ("next_pairs" : Str) 4 false false 4 F_next_pairs) (F : FnP K ("reached" : Str) ("reached" : Str) s_reached f fd) (hm : mg ("reached" : Str) = some (.ref f)) : Fd P w K mg base ("reached" : Str) 5 false false 2 F_reached := by
  exact fd_okD (k := 4) F hm sc_reached (fun _ _ _ _ _ _ us hl => match us, hl with | [_, _], _ => rfl) (by decide) fun cdv A outer s H E c po =>
    (dss_cons (ds_set c 2 (de_call G_all_breaks c (da_cons (de_var 0) da_nil)))
    (dss_cons (ds_setF c 3 (df_dispT c (dps_cons (de_tup (da_cons de_int (da_cons (de_neg de_int) da_nil))) de_int dps_nil)))
    (dss_cons (ds_setF c 4 (df_dispT c (dps_cons (de_tup (da_cons de_int (da_cons (de_neg de_int) da_nil))) (DF.sh (df_lst da_nil)) dps_nil)))
    (dss_cons (ds_for po c (di_seq (de_add (DF.sh (df_lst (da_cons (de_neg de_int) da_nil))) (de_var 2))) (dg_name c 5) (dss_one (ds_for po c (di_seq (DF.sh (df_sortD c B (da_cons (DF.sh (df_lcDk 3 [(("one" : Str), 10)] c (pv 3) (lg_name 10) (fun _ _ _ _ _ => (dg_name c.blk 10)) (fun _ _ _ _ _ => (dts_one (dt_cmp (cr_eq c.blk) (de_ix (de_var 10) de_int) (de_var 5)))) (fun _ _ _ _ _ => (de_var 10)) (ok := blkOk_by (N := [("items" : Str), ("widths" : Str), ("known" : Str), ("prices" : Str), ("lists" : Str), ("start" : Str), ("pair" : Str), ("goal" : Str), ("price" : Str), ("row" : Str), ("one" : Str)]) (sc := defScope s_reached) (by decide +kernel)))) da_nil)))) (dg_name c 6) (dss_one (ds_for po c (di_seq (de_call G_next_pairs c (da_cons (de_var 0) (da_cons (de_var 2) (da_cons (de_var 1) (da_cons (de_var 6) da_nil)))))) (dg_tup c (dgs_cons (dg_name c 7) (dgs_cons (dg_name c 8) dgs_nil))) (dss_cons (ds_set c 9 (de_tup (da_cons (de_add (de_dgv 3 c (pv 3) (de_var 6)) (de_var 8)) (da_cons (de_add (de_dgv 4 c (pv 4) (de_var 6)) (DF.sh (df_lst (da_cons (de_ix (de_var 7) de_int) da_nil)))) da_nil))))
    (dss_one (ds_if (dt_w (dw_or (dt_dnotin 3 c (de_var 7) (pv 3)) (dw_or1 (dt_cmp (cr_ltD c) (de_var 9) (de_tup (da_cons (de_dgv 3 c (pv 3) (de_var 7)) (da_cons (de_dgv 4 c (pv 4) (de_var 7)) da_nil))))))) (dss_one (ds_put2 3 4 c (pv 3) (pv 4) (de_var 7) (de_var 7) (de_var 9))) dss_nil))))))))
    (dss_one (ds_ret (de_tup (da_cons (de_var 3) (da_cons (de_var 4) da_nil)))))))))
theorem sc_best_breaks : FnScope [("items" : Str), ("widths" : Str), ("prices" : Str), ("lists" : Str), ("goals" : Str), ("pair" : Str)] [("items" : Str), ("widths" : Str)] (defScope s_best_breaks) := ⟨rfl, rfl, rfl, by decide +kernel, rfl, by decide +kernel, by decide +kernel⟩
theorem G_best_breaks {f : Addr} {fd : FuncData} (B : Bi mg) (G_check_paragraph : Fd P w K mg base ("check_paragraph" : Str) 5 false false 2 F_check_paragraph) (G_reached : Fd P w K mg base ("reached" : Str) 5 false false 2 F_reached) (F : FnP K ("best_breaks" : Str) ("best_breaks" : Str) s_best_breaks f fd) (hm : mg ("best_breaks" : Str) = some (.ref f)) : Fd P w K mg base ("best_breaks" : Str) 6 false false 2 F_best_breaks := by
  exact fd_okD (k := 5) F hm sc_best_breaks (fun _ _ _ _ _ _ us hl => match us, hl with | [_, _], _ => rfl) (by decide) fun cdv A outer s H E c po =>
    (dss_cons (ds_expr (de_call G_check_paragraph c (da_cons (de_var 0) (da_cons (de_var 1) da_nil))))
    (dss_cons (ds_asg (de_call G_reached c (da_cons (de_var 0) (da_cons (de_var 1) da_nil))) (dg_tup c (dgs_cons (dg_name c 2) (dgs_cons (dg_name c 3) dgs_nil))))
    (dss_cons (ds_setLcD 4 2 [(("pair" : Str), 5)] c (pv 2) (lg_name 5) (fun _ _ _ _ _ => (dg_name c.blk 5)) (fun _ _ _ _ _ => (dts_one (dt_cmp (cr_eq c.blk) (de_ix (de_var 5) de_int) (de_sub (de_len B (da_cons (de_var 0) da_nil)) de_int)))) (fun _ _ _ _ _ => (de_tup (da_cons (de_dgv 2 c.blk (pv 2) (de_var 5)) (da_cons (de_dgv 3 c.blk (pv 3) (de_var 5)) da_nil)))) (ok := blkOk_by (N := [("items" : Str), ("widths" : Str), ("prices" : Str), ("lists" : Str), ("goals" : Str), ("pair" : Str)]) (sc := defScope s_best_breaks) (by decide +kernel)))
    (dss_cons (ds_if (dt_not (dt_truv 4 (pv 4))) (dss_one (ds_ret (de_tup (da_cons de_str (da_cons (de_tupOf B (da_cons (DF.sh (df_sortDT c B (de_var 2))) da_nil)) da_nil))))) dss_nil)
    (dss_one (ds_ret (de_tup (da_cons de_str (da_cons (de_ix (de_minD c B (da_cons (de_var 4) da_nil)) de_int) (da_cons (DF.sh (df_dc [(("pair" : Str), 5)] c (di_seq (DF.sh (df_sortDT c B (de_var 2)))) (lg_name 5) (fun _ _ _ _ _ => (dg_name c.blk 5)) (fun _ _ _ _ _ => dts_nil) (fun _ _ _ _ _ => (de_var 5)) (fun _ _ _ _ _ => (de_dgv 2 c.blk (pv 2) (de_var 5))) (ok := blkOk_by (N := [("items" : Str), ("widths" : Str), ("prices" : Str), ("lists" : Str), ("goals" : Str), ("pair" : Str)]) (sc := defScope s_best_breaks) (by decide +kernel)))) da_nil))))))))))
theorem sc_check_places : FnScope [("items" : Str), ("start" : Str), ("end" : Str), ("known" : Str)] [("items" : Str), ("start" : Str), ("end" : Str)] (defScope s_check_places) := ⟨rfl, rfl, rfl, by decide +kernel, rfl, by decide +kernel, by decide +kernel⟩
theorem G_check_places {f : Addr} {fd : FuncData} (B : Bi mg) (E_InvalidItems : Ec P w K mg base ("InvalidItems" : Str) "what") (G_check_items : Fd P w K mg base ("check_items" : Str) 4 false false 1 F_check_items) (G_all_breaks : Fd P w K mg base ("all_breaks" : Str) 2 false false 1 F_all_breaks) (F : FnP K ("check_places" : Str) ("check_places" : Str) s_check_places f fd) (hm : mg ("check_places" : Str) = some (.ref f)) : Fd P w K mg base ("check_places" : Str) 5 false false 3 F_check_places := by
  exact fd_okD (k := 4) F hm sc_check_places (fun _ _ _ _ _ _ us hl => match us, hl with | [_, _, _], _ => rfl) (by decide) fun cdv A outer s H E c po =>
    (dss_cons (ds_expr (de_call G_check_items c (da_cons (de_var 0) da_nil)))
    (dss_cons (ds_set c 3 (de_call G_all_breaks c (da_cons (de_var 0) da_nil)))
    (dss_one (ds_if (dt_w (dw_or (dt_w (dw_and (dt_cmp (cr_ne c) (de_var 1) (de_neg de_int)) (dw_and1 (dt_cmp (cr_notIn c) (de_var 1) (de_var 3))))) (dw_or (dt_cmp (cr_notIn c) (de_var 2) (de_var 3)) (dw_or1 (dt_cmp cr_le (de_var 2) (de_var 1)))))) (dss_one (ds_raise E_InvalidItems c de_str)) dss_nil))))
theorem sc_line_of : FnScope [("items" : Str), ("start" : Str), ("end" : Str)] [("items" : Str), ("start" : Str), ("end" : Str)] (defScope s_line_of) := ⟨rfl, rfl, rfl, by decide +kernel, rfl, by decide +kernel, by decide +kernel⟩
theorem G_line_of {f : Addr} {fd : FuncData} (B : Bi mg) (G_line_between : Fd P w K mg base ("line_between" : Str) 2 false false 3 F_line_between) (G_check_places : Fd P w K mg base ("check_places" : Str) 5 false false 3 F_check_places) (F : FnP K ("line_of" : Str) ("line_of" : Str) s_line_of f fd) (hm : mg ("line_of" : Str) = some (.ref f)) : Fd P w K mg base ("line_of" : Str) 6 false false 3 F_line_of := by
  exact fd_okD (k := 5) F hm sc_line_of (fun _ _ _ _ _ _ us hl => match us, hl with | [_, _, _], _ => rfl) (by decide) fun cdv A outer s H E c po =>
    (dss_cons (ds_expr (de_call G_check_places c (da_cons (de_var 0) (da_cons (de_var 1) (da_cons (de_var 2) da_nil)))))
    (dss_one (ds_ret (de_call G_line_between c (da_cons (de_var 0) (da_cons (de_var 1) (da_cons (de_var 2) da_nil)))))))
theorem sc_measures : FnScope [("items" : Str), ("start" : Str), ("end" : Str), ("line" : Str)] [("items" : Str), ("start" : Str), ("end" : Str)] (defScope s_measures) := ⟨rfl, rfl, rfl, by decide +kernel, rfl, by decide +kernel, by decide +kernel⟩
theorem G_measures {f : Addr} {fd : FuncData} (B : Bi mg) (E_InvalidItems : Ec P w K mg base ("InvalidItems" : Str) "what") (G_sums_of : Fd P w K mg base ("sums_of" : Str) 1 false false 3 F_sums_of) (G_line_of : Fd P w K mg base ("line_of" : Str) 6 false false 3 F_line_of) (F : FnP K ("measures" : Str) ("measures" : Str) s_measures f fd) (hm : mg ("measures" : Str) = some (.ref f)) : Fd P w K mg base ("measures" : Str) 7 false false 3 F_measures := by
  exact fd_okD (k := 6) F hm sc_measures (fun _ _ _ _ _ _ us hl => match us, hl with | [_, _, _], _ => rfl) (by decide) fun cdv A outer s H E c po =>
    (dss_cons (ds_set c 3 (de_call G_line_of c (da_cons (de_var 0) (da_cons (de_var 1) (da_cons (de_var 2) da_nil)))))
    (dss_cons (ds_if (dt_cmp cr_is (de_var 3) de_non) (dss_one (ds_raise E_InvalidItems c de_str)) dss_nil)
    (dss_one (ds_ret (de_call G_sums_of c (da_cons (de_var 0) (da_cons (de_var 3) (da_cons (de_var 2) da_nil))))))))
theorem sc_fraction : FnScope [("above" : Str), ("below" : Str), ("common" : Str)] [("above" : Str), ("below" : Str)] (defScope s_fraction) := ⟨rfl, rfl, rfl, by decide +kernel, rfl, by decide +kernel, by decide +kernel⟩
theorem G_fraction {f : Addr} {fd : FuncData} (B : Bi mg) (h_gcd : mg ("gcd" : Str) = some (.builtin "math.gcd")) (F : FnP K ("fraction" : Str) ("fraction" : Str) s_fraction f fd) (hm : mg ("fraction" : Str) = some (.ref f)) : Fd P w K mg base ("fraction" : Str) 1 false false 2 F_fraction := by
  exact fd_okD (k := 0) F hm sc_fraction (fun _ _ _ _ _ _ us hl => match us, hl with | [_, _], _ => rfl) (by decide) fun cdv A outer s H E c po =>
    (dss_cons (ds_set c 2 (de_gcd h_gcd (da_cons (de_var 0) (da_cons (de_var 1) da_nil))))
    (dss_one (ds_ret (de_tup (da_cons (de_fdivW (de_var 0) (de_var 2)) (da_cons (de_fdivW (de_var 1) (de_var 2)) da_nil))))))
theorem sc_set_line : FnScope [("items" : Str), ("start" : Str), ("end" : Str), ("width" : Str), ("natural" : Str), ("stretch" : Str), ("shrink" : Str), ("gap" : Str), ("share" : Str), ("below" : Str), ("place" : Str), ("found" : Str), ("item" : Str), ("part" : Str)] [("items" : Str), ("start" : Str), ("end" : Str), ("width" : Str)] (defScope s_set_line) := ⟨rfl, rfl, rfl, by decide +kernel, rfl, by decide +kernel, by decide +kernel⟩
theorem G_set_line {f : Addr} {fd : FuncData} (B : Bi mg) (E_InvalidLength : Ec P w K mg base ("InvalidLength" : Str) "what") (G_badness : Fd P w K mg base ("badness" : Str) 1 false false 4 F_badness) (G_line_of : Fd P w K mg base ("line_of" : Str) 6 false false 3 F_line_of) (G_measures : Fd P w K mg base ("measures" : Str) 7 false false 3 F_measures) (G_fraction : Fd P w K mg base ("fraction" : Str) 1 false false 2 F_fraction) (F : FnP K ("set_line" : Str) ("set_line" : Str) s_set_line f fd) (hm : mg ("set_line" : Str) = some (.ref f)) : Fd P w K mg base ("set_line" : Str) 8 false false 4 F_set_line := by
  exact fd_okD (k := 7) F hm sc_set_line (fun _ _ _ _ _ _ us hl => match us, hl with | [_, _, _, _], _ => rfl) (by decide) fun cdv A outer s H E c po =>
    (dss_cons (ds_asg (de_call G_measures c (da_cons (de_var 0) (da_cons (de_var 1) (da_cons (de_var 2) da_nil)))) (dg_tup c (dgs_cons (dg_name c 4) (dgs_cons (dg_name c 5) (dgs_cons (dg_name c 6) dgs_nil)))))
    (dss_cons (ds_if (dt_cmp cr_is (de_call G_badness c (da_cons (de_var 4) (da_cons (de_var 5) (da_cons (de_var 6) (da_cons (de_var 3) da_nil))))) de_non) (dss_one (ds_raise E_InvalidLength c de_str)) dss_nil)
    (dss_cons (ds_set c 7 (de_sub (de_var 3) (de_var 4)))
    (dss_cons (ds_set c 8 (de_if (dt_cmp cr_gt (de_var 7) de_int) (de_var 5) (de_var 6)))
    (dss_cons (ds_set c 9 (de_if (dt_cmp cr_gt (de_var 8) de_int) (de_var 8) de_int))
    (dss_cons (ds_set c 10 de_int)
    (dss_cons (ds_setF c 11 (df_lst da_nil))
    (dss_cons (ds_for po c (di_seq (de_call G_line_of c (da_cons (de_var 0) (da_cons (de_var 1) (da_cons (de_var 2) da_nil))))) (dg_name c 12) (dss_one (ds_if (dt_cmp (cr_eq c) (de_ix (de_var 12) de_int) de_str) (dss_cons (ds_expr (de_append 11 (pv 11) (da_cons (de_tup (da_cons (de_call G_fraction c (da_cons (de_var 10) (da_cons (de_var 9) da_nil))) (da_cons (de_ix (de_var 12) de_int) da_nil))) da_nil)))
    (dss_one (ds_augAdd c 10 (de_mul (de_ix (de_var 12) de_int) (de_var 9))))) (dss_one (ds_if (dt_cmp (cr_eq c) (de_ix (de_var 12) de_int) de_str) (dss_cons (ds_set c 13 (de_if (dt_cmp cr_gt (de_var 7) de_int) (de_ix (de_var 12) de_int) (de_ix (de_var 12) de_int)))
    (dss_one (ds_augAdd c 10 (de_add (de_mul (de_ix (de_var 12) de_int) (de_var 9)) (de_if (dt_cmp cr_gt (de_var 8) de_int) (de_mul (de_var 7) (de_var 13)) de_int))))) dss_nil)))))
    (dss_one (ds_ret (de_var 11)))))))))))
theorem sc_is_list_of_breaks : FnScope [("items" : Str), ("breaks" : Str), ("known" : Str), ("at" : Str)] [("items" : Str), ("breaks" : Str)] (defScope s_is_list_of_breaks) := ⟨rfl, rfl, rfl, by decide +kernel, rfl, by decide +kernel, by decide +kernel⟩
theorem G_is_list_of_breaks {f : Addr} {fd : FuncData} (B : Bi mg) (G_all_breaks : Fd P w K mg base ("all_breaks" : Str) 2 false false 1 F_all_breaks) (F : FnP K ("is_list_of_breaks" : Str) ("is_list_of_breaks" : Str) s_is_list_of_breaks f fd) (hm : mg ("is_list_of_breaks" : Str) = some (.ref f)) : Fd P w K mg base ("is_list_of_breaks" : Str) 3 false false 2 F_is_list_of_breaks := by
  exact fd_okD (k := 2) F hm sc_is_list_of_breaks (fun _ _ _ _ _ _ us hl => match us, hl with | [_, _], _ => rfl) (by decide) fun cdv A outer s H E c po =>
    (dss_cons (ds_set c 2 (de_call G_all_breaks c (da_cons (de_var 0) da_nil)))
    (dss_cons (ds_if (dt_w (dw_or (dt_not (dt_truv 1 (pv 1))) (dw_or (dt_tru (DF.sh (df_lc [(("at" : Str), 3)] c (di_seq (de_var 1)) (lg_name 3) (fun _ _ _ _ _ => (dg_name c.blk 3)) (fun _ _ _ _ _ => (dts_one (dt_cmp (cr_notIn c.blk) (de_var 3) (de_var 2)))) (fun _ _ _ _ _ => (de_var 3)) (ok := blkOk_by (N := [("items" : Str), ("breaks" : Str), ("known" : Str), ("at" : Str)]) (sc := defScope s_is_list_of_breaks) (by decide +kernel))))) (dw_or1 (dt_cmp (cr_ne c) (de_ix (de_var 1) (de_neg de_int)) (de_sub (de_len B (da_cons (de_var 0) da_nil)) de_int)))))) (dss_one (ds_ret de_bl)) dss_nil)
    (dss_one (ds_ret (de_cmp (cr_eq c) (DF.sh (df_listOf B (da_cons (de_var 1) da_nil))) (DF.sh (df_sortSet c B (de_var 1))))))))
theorem sc_total_demerits : FnScope [("items" : Str), ("widths" : Str), ("breaks" : Str), ("total" : Str), ("start" : Str), ("many" : Str), ("price" : Str)] [("items" : Str), ("widths" : Str), ("breaks" : Str)] (defScope s_total_demerits) := ⟨rfl, rfl, rfl, by decide +kernel, rfl, by decide +kernel, by decide +kernel⟩
theorem G_total_demerits {f : Addr} {fd : FuncData} (B : Bi mg) (G_check_paragraph : Fd P w K mg base ("check_paragraph" : Str) 5 false false 2 F_check_paragraph) (G_demerits_of : Fd P w K mg base ("demerits_of" : Str) 3 false false 4 F_demerits_of) (G_width_at : Fd P w K mg base ("width_at" : Str) 1 false false 2 F_width_at) (G_is_list_of_breaks : Fd P w K mg base ("is_list_of_breaks" : Str) 3 false false 2 F_is_list_of_breaks) (F : FnP K ("total_demerits" : Str) ("total_demerits" : Str) s_total_demerits f fd) (hm : mg ("total_demerits" : Str) = some (.ref f)) : Fd P w K mg base ("total_demerits" : Str) 6 false false 3 F_total_demerits := by
  exact fd_okD (k := 5) F hm sc_total_demerits (fun _ _ _ _ _ _ us hl => match us, hl with | [_, _, _], _ => rfl) (by decide) fun cdv A outer s H E c po =>
    (dss_cons (ds_expr (de_call G_check_paragraph c (da_cons (de_var 0) (da_cons (de_var 1) da_nil))))
    (dss_cons (ds_if (dt_not (dt_tru (de_call G_is_list_of_breaks c (da_cons (de_var 0) (da_cons (de_var 2) da_nil))))) (dss_one (ds_ret de_non)) dss_nil)
    (dss_cons (ds_set c 3 de_int)
    (dss_cons (ds_set c 4 (de_neg de_int))
    (dss_cons (ds_for po c (di_r1 B (da_cons (de_len B (da_cons (de_var 2) da_nil)) da_nil)) (dg_name c 5) (dss_cons (ds_set c 6 (de_call G_demerits_of c (da_cons (de_var 0) (da_cons (de_var 4) (da_cons (de_ix (de_var 2) (de_var 5)) (da_cons (de_call G_width_at c (da_cons (de_var 1) (da_cons (de_var 5) da_nil))) da_nil))))))
    (dss_cons (ds_if (dt_cmp cr_is (de_var 6) de_non) (dss_one (ds_ret de_non)) dss_nil)
    (dss_cons (ds_augAdd c 3 (de_var 6))
    (dss_one (ds_set c 4 (de_ix (de_var 2) (de_var 5))))))))
    (dss_one (ds_ret (de_var 3))))))))
theorem sc_set_paragraph : FnScope [("items" : Str), ("widths" : Str), ("breaks" : Str), ("found" : Str), ("start" : Str), ("many" : Str)] [("items" : Str), ("widths" : Str), ("breaks" : Str)] (defScope s_set_paragraph) := ⟨rfl, rfl, rfl, by decide +kernel, rfl, by decide +kernel, by decide +kernel⟩
theorem G_set_paragraph {f : Addr} {fd : FuncData} (B : Bi mg) (E_InvalidItems : Ec P w K mg base ("InvalidItems" : Str) "what") (G_width_at : Fd P w K mg base ("width_at" : Str) 1 false false 2 F_width_at) (G_set_line : Fd P w K mg base ("set_line" : Str) 8 false false 4 F_set_line) (G_total_demerits : Fd P w K mg base ("total_demerits" : Str) 6 false false 3 F_total_demerits) (F : FnP K ("set_paragraph" : Str) ("set_paragraph" : Str) s_set_paragraph f fd) (hm : mg ("set_paragraph" : Str) = some (.ref f)) : Fd P w K mg base ("set_paragraph" : Str) 9 false false 3 F_set_paragraph := by
  exact fd_okD (k := 8) F hm sc_set_paragraph (fun _ _ _ _ _ _ us hl => match us, hl with | [_, _, _], _ => rfl) (by decide) fun cdv A outer s H E c po =>
    (dss_cons (ds_if (dt_cmp cr_is (de_call G_total_demerits c (da_cons (de_var 0) (da_cons (de_var 1) (da_cons (de_var 2) da_nil)))) de_non) (dss_one (ds_raise E_InvalidItems c de_str)) dss_nil)
    (dss_cons (ds_setF c 3 (df_lst da_nil))
    (dss_cons (ds_set c 4 (de_neg de_int))
    (dss_cons (ds_for po c (di_r1 B (da_cons (de_len B (da_cons (de_var 2) da_nil)) da_nil)) (dg_name c 5) (dss_cons (ds_expr (de_append 3 (pv 3) (da_cons (de_call G_set_line c (da_cons (de_var 0) (da_cons (de_var 4) (da_cons (de_ix (de_var 2) (de_var 5)) (da_cons (de_call G_width_at c (da_cons (de_var 1) (da_cons (de_var 5) da_nil))) da_nil))))) da_nil)))
    (dss_one (ds_set c 4 (de_ix (de_var 2) (de_var 5))))))
    (dss_one (ds_ret (de_var 3)))))))
theorem sc__law_refusal : FnScope [("ask" : Str), ("items" : Str), ("one" : Str), ("two" : Str), ("three" : Str), ("error" : Str)] [("ask" : Str), ("items" : Str), ("one" : Str), ("two" : Str), ("three" : Str)] (defScope s__law_refusal) := ⟨rfl, rfl, rfl, by decide +kernel, rfl, by decide +kernel, by decide +kernel⟩
theorem G__law_refusal {f : Addr} {fd : FuncData} (B : Bi mg) (E_InvalidItems : Ec P w K mg base ("InvalidItems" : Str) "what") (E_InvalidLength : Ec P w K mg base ("InvalidLength" : Str) "what") (exm : exmB K errs = true) (hms : ∀ y ∈ errs, mg y = some (.ref (He.ga K y))) (G_set_line : Fd P w K mg base ("set_line" : Str) 8 false false 4 F_set_line) (G_set_paragraph : Fd P w K mg base ("set_paragraph" : Str) 9 false false 3 F_set_paragraph) (F : FnP K ("_law_refusal" : Str) ("_law_refusal" : Str) s__law_refusal f fd) (hm : mg ("_law_refusal" : Str) = some (.ref f)) : Fd P w K mg base ("_law_refusal" : Str) 10 false false 5 F__law_refusal := by
  exact fd_okD (k := 9) F hm sc__law_refusal (fun _ _ _ _ _ _ us hl => match us, hl with | [_, _, _, _, _], _ => rfl) (by decide) fun cdv A outer s H E c po =>
    (dss_cons (ds_tryT (n := ("error" : Str)) errs [(("InvalidLength" : Str), ("length" : Str)), (("InvalidItems" : Str), ("items" : Str))] 5 exm hms c (fun _ _ _ c po => (dss_one (ds_if (dt_cmp (cr_eq c) (de_var 0) de_int) (dss_one (ds_expr (de_call G_set_line c (da_cons (de_var 1) (da_cons (de_var 2) (da_cons (de_var 3) (da_cons (de_var 4) da_nil))))))) (dss_one (ds_expr (de_call G_set_paragraph c (da_cons (de_var 1) (da_cons (de_var 2) (da_cons (de_var 3) da_nil))))))))) (clauseT E_InvalidLength (clauseT E_InvalidItems .nil)))
    (dss_one (ds_ret de_non)))
theorem sc__law_plain : FnScope [("value" : Str), ("item" : Str)] [("value" : Str)] (defScope s__law_plain) := ⟨rfl, rfl, rfl, by decide +kernel, rfl, by decide +kernel, by decide +kernel⟩
theorem G__law_plain {f : Addr} {fd : FuncData} (B : Bi mg) (F : FnP K ("_law_plain" : Str) ("_law_plain" : Str) s__law_plain f fd) (hm : mg ("_law_plain" : Str) = some (.ref f)) : ∀ n : Nat, Fd P w K mg base ("_law_plain" : Str) (n + 1) false false 1 (F__law_plain_ n)
  | 0 => fd_okD (k := 0) F hm sc__law_plain (fun _ _ _ _ _ _ us hl => match us, hl with | [_], _ => rfl) (by decide) fun cdv A outer s H E c po => dss_bad
  | n + 1 => by
    have G__law_plain := G__law_plain B F hm n
    exact fd_okD (k := n + 1) F hm sc__law_plain (fun _ _ _ _ _ _ us hl => match us, hl with | [_], _ => rfl) (by decide) fun cdv A outer s H E c po =>
    (dss_cons (ds_if (dt_tru (de_isi2 "tuple" "list" B (de_var 0) B.tuple (by decide +kernel) B.list (by decide +kernel))) (dss_one (ds_ret (de_add (DF.sh (df_lst (da_cons (de_isi "list" B (de_var 0) B.list (by decide +kernel)) da_nil))) (DF.sh (df_lc [(("item" : Str), 1)] c (di_seq (de_var 0)) (lg_name 1) (fun _ _ _ _ _ => (dg_name c.blk 1)) (fun _ _ _ _ _ => dts_nil) (fun _ _ _ _ _ => (de_call G__law_plain c.blk (da_cons (de_var 1) da_nil) (hj := Nat.le_refl (n + 1)))) (ok := blkOk_by (N := [("value" : Str), ("item" : Str)]) (sc := defScope s__law_plain) (by decide +kernel))))))) dss_nil)
    (dss_cons (ds_if (dt_w (dw_or (dt_cmp cr_is (de_var 0) de_non) (dw_or1 (dt_tru (de_isi "bool" B (de_var 0) B.bool (by decide +kernel)))))) (dss_one (ds_ret (de_ix (DF.sh (df_lst (da_cons de_str (da_cons de_str (da_cons de_str da_nil))))) (de_add (de_toint B (da_cons (de_cmp cr_isNot (de_var 0) de_non) da_nil)) (de_toint B (da_cons (de_cmp cr_isB (de_var 0) de_bl) da_nil)))))) dss_nil)
    (dss_cons (ds_if (dt_tru (de_isi2 "int" "str" B (de_var 0) B.int (by decide +kernel) B.str (by decide +kernel))) (dss_one (ds_ret (DF.sh (df_lst (da_cons (de_isi "str" B (de_var 0) B.str (by decide +kernel)) (da_cons (de_var 0) da_nil)))))) dss_nil)
    (dss_one (ds_ret de_str)))))
theorem sc__law_line : FnScope [("items" : Str), ("start" : Str), ("end" : Str), ("line" : Str), ("at" : Str), ("item" : Str)] [("items" : Str), ("start" : Str), ("end" : Str)] (defScope s__law_line) := ⟨rfl, rfl, rfl, by decide +kernel, rfl, by decide +kernel, by decide +kernel⟩
theorem G__law_line {f : Addr} {fd : FuncData} (B : Bi mg) (F : FnP K ("_law_line" : Str) ("_law_line" : Str) s__law_line f fd) (hm : mg ("_law_line" : Str) = some (.ref f)) : Fd P w K mg base ("_law_line" : Str) 1 false false 3 F__law_line := by
  exact fd_okD (k := 0) F hm sc__law_line (fun _ _ _ _ _ _ us hl => match us, hl with | [_, _, _], _ => rfl) (by decide) fun cdv A outer s H E c po =>
    (dss_cons (ds_setF c 3 (df_lst da_nil))
    (dss_cons (ds_for po c (di_r2 B (da_cons (de_add (de_var 1) de_int) (da_cons (de_var 2) da_nil))) (dg_name c 4) (dss_cons (ds_set c 5 (de_ix (de_var 0) (de_var 4)))
    (dss_cons (ds_if (dt_w (dw_and (dt_cmp (cr_eq c) (de_ix (de_var 5) de_int) de_str) (dw_and1 (dt_cmp (cr_eq c) (de_ix (de_var 5) de_int) (de_neg de_int))))) (dss_one (ds_ret de_non)) dss_nil)
    (dss_one (ds_if (dt_w (dw_or (dt_cmp cr_gt (de_lenv B 3 (pv 3)) de_int) (dw_or1 (dt_cmp (cr_eq c) (de_ix (de_var 5) de_int) de_str)))) (dss_one (ds_expr (de_append 3 (pv 3) (da_cons (de_var 5) da_nil)))) dss_nil)))))
    (dss_one (ds_ret (de_if (dt_cmp cr_gt (de_lenv B 3 (pv 3)) de_int) (de_var 3) de_non)))))
theorem sc__law_sums : FnScope [("items" : Str), ("line" : Str), ("end" : Str), ("natural" : Str), ("stretch" : Str), ("item" : Str)] [("items" : Str), ("line" : Str), ("end" : Str)] (defScope s__law_sums) := ⟨rfl, rfl, rfl, by decide +kernel, rfl, by decide +kernel, by decide +kernel⟩
theorem G__law_sums {f : Addr} {fd : FuncData} (B : Bi mg) (F : FnP K ("_law_sums" : Str) ("_law_sums" : Str) s__law_sums f fd) (hm : mg ("_law_sums" : Str) = some (.ref f)) : Fd P w K mg base ("_law_sums" : Str) 1 false false 3 F__law_sums := by
  exact fd_okD (k := 0) F hm sc__law_sums (fun _ _ _ _ _ _ us hl => match us, hl with | [_, _, _], _ => rfl) (by decide) fun cdv A outer s H E c po =>
    (dss_cons (ds_set c 3 (de_sum c B (da_cons (DF.sh (df_lc [(("item" : Str), 5)] c (di_seq (de_var 1)) (lg_name 5) (fun _ _ _ _ _ => (dg_name c.blk 5)) (fun _ _ _ _ _ => (dts_one (dt_cmp (cr_ne c.blk) (de_ix (de_var 5) de_int) de_str))) (fun _ _ _ _ _ => (de_ix (de_var 5) de_int)) (ok := blkOk_by (N := [("items" : Str), ("line" : Str), ("end" : Str), ("natural" : Str), ("stretch" : Str), ("item" : Str)]) (sc := defScope s__law_sums) (by decide +kernel)))) da_nil)))
    (dss_cons (ds_if (dt_cmp (cr_eq c) (de_ix (de_ix (de_var 0) (de_var 2)) de_int) de_str) (dss_one (ds_set c 3 (de_add (de_var 3) (de_ix (de_ix (de_var 0) (de_var 2)) de_int)))) dss_nil)
    (dss_cons (ds_set c 4 (de_sum c B (da_cons (DF.sh (df_lc [(("item" : Str), 5)] c (di_seq (de_var 1)) (lg_name 5) (fun _ _ _ _ _ => (dg_name c.blk 5)) (fun _ _ _ _ _ => (dts_one (dt_cmp (cr_eq c.blk) (de_ix (de_var 5) de_int) de_str))) (fun _ _ _ _ _ => (de_ix (de_var 5) de_int)) (ok := blkOk_by (N := [("items" : Str), ("line" : Str), ("end" : Str), ("natural" : Str), ("stretch" : Str), ("item" : Str)]) (sc := defScope s__law_sums) (by decide +kernel)))) da_nil)))
    (dss_one (ds_ret (de_tup (da_cons (de_var 3) (da_cons (de_var 4) (da_cons (de_sum c B (da_cons (DF.sh (df_lc [(("item" : Str), 5)] c (di_seq (de_var 1)) (lg_name 5) (fun _ _ _ _ _ => (dg_name c.blk 5)) (fun _ _ _ _ _ => (dts_one (dt_cmp (cr_eq c.blk) (de_ix (de_var 5) de_int) de_str))) (fun _ _ _ _ _ => (de_ix (de_var 5) de_int)) (ok := blkOk_by (N := [("items" : Str), ("line" : Str), ("end" : Str), ("natural" : Str), ("stretch" : Str), ("item" : Str)]) (sc := defScope s__law_sums) (by decide +kernel)))) da_nil)) da_nil)))))))))
theorem sc__law_badness : FnScope [("natural" : Str), ("stretch" : Str), ("shrink" : Str), ("width" : Str), ("gap" : Str)] [("natural" : Str), ("stretch" : Str), ("shrink" : Str), ("width" : Str)] (defScope s__law_badness) := ⟨rfl, rfl, rfl, by decide +kernel, rfl, by decide +kernel, by decide +kernel⟩
theorem G__law_badness {f : Addr} {fd : FuncData} (B : Bi mg) (F : FnP K ("_law_badness" : Str) ("_law_badness" : Str) s__law_badness f fd) (hm : mg ("_law_badness" : Str) = some (.ref f)) : Fd P w K mg base ("_law_badness" : Str) 1 false false 4 F__law_badness := by
  exact fd_okD (k := 0) F hm sc__law_badness (fun _ _ _ _ _ _ us hl => match us, hl with | [_, _, _, _], _ => rfl) (by decide) fun cdv A outer s H E c po =>
    (dss_cons (ds_set c 4 (de_sub (de_var 3) (de_var 0)))
    (dss_cons (ds_if (dt_cmp (cr_eq c) (de_var 4) de_int) (dss_one (ds_ret de_int)) dss_nil)
    (dss_cons (ds_if (dt_cmp cr_gt (de_var 4) de_int) (dss_cons (ds_if (dt_cmp (cr_eq c) (de_var 1) de_int) (dss_one (ds_ret de_int)) dss_nil)
    (dss_one (ds_ret (de_min2 c B (da_cons de_int (da_cons (de_fdivW (de_mul (de_mul (de_mul de_int (de_var 4)) (de_var 4)) (de_var 4)) (de_mul (de_mul (de_var 1) (de_var 1)) (de_var 1))) da_nil)))))) dss_nil)
    (dss_cons (ds_if (dt_cmp cr_gt (de_neg (de_var 4)) (de_var 2)) (dss_one (ds_ret de_non)) dss_nil)
    (dss_one (ds_ret (de_fdivW (de_mul (de_mul (de_mul de_int (de_neg (de_var 4))) (de_var 4)) (de_var 4)) (de_mul (de_mul (de_var 2) (de_var 2)) (de_var 2)))))))))
theorem sc__law_demerits : FnScope [("items" : Str), ("start" : Str), ("end" : Str), ("width" : Str), ("line" : Str), ("natural" : Str), ("stretch" : Str), ("shrink" : Str), ("bad" : Str), ("found" : Str), ("cost" : Str)] [("items" : Str), ("start" : Str), ("end" : Str), ("width" : Str)] (defScope s__law_demerits) := ⟨rfl, rfl, rfl, by decide +kernel, rfl, by decide +kernel, by decide +kernel⟩
theorem G__law_demerits {f : Addr} {fd : FuncData} (B : Bi mg) (G__law_line : Fd P w K mg base ("_law_line" : Str) 1 false false 3 F__law_line) (G__law_sums : Fd P w K mg base ("_law_sums" : Str) 1 false false 3 F__law_sums) (G__law_badness : Fd P w K mg base ("_law_badness" : Str) 1 false false 4 F__law_badness) (F : FnP K ("_law_demerits" : Str) ("_law_demerits" : Str) s__law_demerits f fd) (hm : mg ("_law_demerits" : Str) = some (.ref f)) : Fd P w K mg base ("_law_demerits" : Str) 2 false false 4 F__law_demerits := by
  exact fd_okD (k := 1) F hm sc__law_demerits (fun _ _ _ _ _ _ us hl => match us, hl with | [_, _, _, _], _ => rfl) (by decide) fun cdv A outer s H E c po =>
    (dss_cons (ds_set c 4 (de_call G__law_line c (da_cons (de_var 0) (da_cons (de_var 1) (da_cons (de_var 2) da_nil)))))
    (dss_cons (ds_if (dt_cmp cr_is (de_var 4) de_non) (dss_one (ds_ret de_non)) dss_nil)
    (dss_cons (ds_asg (de_call G__law_sums c (da_cons (de_var 0) (da_cons (de_var 4) (da_cons (de_var 2) da_nil)))) (dg_tup c (dgs_cons (dg_name c 5) (dgs_cons (dg_name c 6) (dgs_cons (dg_name c 7) dgs_nil)))))
    (dss_cons (ds_set c 8 (de_call G__law_badness c (da_cons (de_var 5) (da_cons (de_var 6) (da_cons (de_var 7) (da_cons (de_var 3) da_nil))))))
    (dss_cons (ds_if (dt_cmp cr_is (de_var 8) de_non) (dss_one (ds_ret de_non)) dss_nil)
    (dss_cons (ds_set c 9 (de_mul (de_add de_int (de_var 8)) (de_add de_int (de_var 8))))
    (dss_cons (ds_if (dt_cmp (cr_eq c) (de_ix (de_ix (de_var 0) (de_var 2)) de_int) de_str) (dss_cons (ds_set c 10 (de_ix (de_ix (de_var 0) (de_var 2)) de_int))
    (dss_cons (ds_if (dt_cmp cr_ge (de_var 10) de_int) (dss_one (ds_set c 9 (de_add (de_var 9) (de_mul (de_var 10) (de_var 10))))) (dss_one (ds_if (dt_cmp cr_gt (de_var 10) (de_neg de_int)) (dss_one (ds_set c 9 (de_sub (de_var 9) (de_mul (de_var 10) (de_var 10))))) dss_nil)))
    (dss_one (ds_if (dt_w (dw_and (dt_cmp cr_ge (de_var 1) de_int) (dw_and (dt_cmp (cr_eq c) (de_ix (de_ix (de_var 0) (de_var 1)) de_int) de_str) (dw_and (dt_tru (de_ix (de_ix (de_var 0) (de_var 1)) de_int)) (dw_and1 (dt_tru (de_ix (de_ix (de_var 0) (de_var 2)) de_int))))))) (dss_one (ds_set c 9 (de_add (de_var 9) de_int))) dss_nil)))) dss_nil)
    (dss_one (ds_ret (de_var 9))))))))))
theorem sc__law_divisor : FnScope [("one" : Str), ("two" : Str)] [("one" : Str), ("two" : Str)] (defScope s__law_divisor) := ⟨rfl, rfl, rfl, by decide +kernel, rfl, by decide +kernel, by decide +kernel⟩
theorem G__law_divisor {f : Addr} {fd : FuncData} (B : Bi mg) (F : FnP K ("_law_divisor" : Str) ("_law_divisor" : Str) s__law_divisor f fd) (hm : mg ("_law_divisor" : Str) = some (.ref f)) : Fd P w K mg base ("_law_divisor" : Str) 1 false false 2 F__law_divisor := by
  exact fd_okD (k := 0) F hm sc__law_divisor (fun _ _ _ _ _ _ us hl => match us, hl with | [_, _], _ => rfl) (by decide) fun cdv A outer s H E c po =>
    (dss_cons (ds_while (muI 1) po (dt_cmp (cr_ne c) (de_var 1) de_int) (dss_one (ds_par c 0 1 (da_cons (de_var 1) (da_cons (de_mod (de_toint B (da_cons (de_var 0) da_nil)) (de_var 1)) da_nil)))))
    (dss_one (ds_ret (de_abs B (da_cons (de_var 0) da_nil)))))
theorem sc__law_set : FnScope [("items" : Str), ("start" : Str), ("end" : Str), ("width" : Str), ("line" : Str), ("natural" : Str), ("stretch" : Str), ("shrink" : Str), ("gap" : Str), ("whole" : Str), ("below" : Str), ("place" : Str), ("found" : Str), ("item" : Str), ("factor" : Str)] [("items" : Str), ("start" : Str), ("end" : Str), ("width" : Str)] (defScope s__law_set) := ⟨rfl, rfl, rfl, by decide +kernel, rfl, by decide +kernel, by decide +kernel⟩
theorem G__law_set {f : Addr} {fd : FuncData} (B : Bi mg) (G__law_line : Fd P w K mg base ("_law_line" : Str) 1 false false 3 F__law_line) (G__law_sums : Fd P w K mg base ("_law_sums" : Str) 1 false false 3 F__law_sums) (G__law_divisor : Fd P w K mg base ("_law_divisor" : Str) 1 false false 2 F__law_divisor) (F : FnP K ("_law_set" : Str) ("_law_set" : Str) s__law_set f fd) (hm : mg ("_law_set" : Str) = some (.ref f)) : Fd P w K mg base ("_law_set" : Str) 2 false false 4 F__law_set := by
  exact fd_okD (k := 1) F hm sc__law_set (fun _ _ _ _ _ _ us hl => match us, hl with | [_, _, _, _], _ => rfl) (by decide) fun cdv A outer s H E c po =>
    (dss_cons (ds_set c 4 (de_call G__law_line c (da_cons (de_var 0) (da_cons (de_var 1) (da_cons (de_var 2) da_nil)))))
    (dss_cons (ds_asg (de_call G__law_sums c (da_cons (de_var 0) (da_cons (de_var 4) (da_cons (de_var 2) da_nil)))) (dg_tup c (dgs_cons (dg_name c 5) (dgs_cons (dg_name c 6) (dgs_cons (dg_name c 7) dgs_nil)))))
    (dss_cons (ds_set c 8 (de_sub (de_var 3) (de_var 5)))
    (dss_cons (ds_set c 9 (de_if (dt_cmp cr_gt (de_var 8) de_int) (de_var 6) (de_var 7)))
    (dss_cons (ds_set c 10 (de_max2 c B (da_cons (de_var 9) (da_cons de_int da_nil))))
    (dss_cons (ds_set c 11 de_int)
    (dss_cons (ds_setF c 12 (df_lst da_nil))
    (dss_cons (ds_for po c (di_seq (de_var 4)) (dg_name c 13) (dss_cons (ds_if (dt_cmp (cr_eq c) (de_ix (de_var 13) de_int) de_str) (dss_cons (ds_set c 14 (de_call G__law_divisor c (da_cons (de_var 11) (da_cons (de_var 10) da_nil))))
    (dss_cons (ds_expr (de_append 12 (pv 12) (da_cons (de_tup (da_cons (de_tup (da_cons (de_fdivW (de_var 11) (de_var 14)) (da_cons (de_fdivW (de_var 10) (de_var 14)) da_nil))) (da_cons (de_ix (de_var 13) de_int) da_nil))) da_nil)))
    (dss_one (ds_set c 11 (de_add (de_var 11) (de_mul (de_ix (de_var 13) de_int) (de_var 10))))))) dss_nil)
    (dss_one (ds_if (dt_cmp (cr_eq c) (de_ix (de_var 13) de_int) de_str) (dss_cons (ds_set c 11 (de_add (de_var 11) (de_mul (de_ix (de_var 13) de_int) (de_var 10))))
    (dss_one (ds_if (dt_cmp cr_gt (de_var 9) de_int) (dss_one (ds_set c 11 (de_add (de_var 11) (de_mul (de_var 8) (de_if (dt_cmp cr_gt (de_var 8) de_int) (de_ix (de_var 13) de_int) (de_ix (de_var 13) de_int)))))) dss_nil))) dss_nil))))
    (dss_one (ds_ret (de_tup (da_cons (de_var 12) (da_cons (de_var 11) (da_cons (de_var 10) da_nil))))))))))))))
theorem sc_law : FnScope [("script" : Str), ("deck" : Str), ("turn" : Str), ("items" : Str), ("known" : Str), ("start" : Str), ("end" : Str), ("width" : Str), ("found" : Str), ("place" : Str), ("below" : Str), ("natural" : Str), ("stretch" : Str), ("shrink" : Str), ("extra" : Str), ("widths" : Str), ("paper" : Str), ("rows" : Str), ("many" : Str), ("again" : Str)] [("script" : Str)] (defScope s_law) := ⟨rfl, rfl, rfl, by decide +kernel, rfl, by decide +kernel, by decide +kernel⟩
theorem G_law {f : Addr} {fd : FuncData} (B : Bi mg) (G__law_deck : Fd P w K mg base ("_law_deck" : Str) 1 false true 3 F__law_deck) (G__law_take : Fd P w K mg base ("_law_take" : Str) 1 true false 2 F__law_take) (G__law_items : Fd P w K mg base ("_law_items" : Str) 2 true false 2 F__law_items) (G__law_breaks : Fd P w K mg base ("_law_breaks" : Str) 1 false false 1 F__law_breaks) (G_best_breaks : Fd P w K mg base ("best_breaks" : Str) 6 false false 2 F_best_breaks) (G_set_line : Fd P w K mg base ("set_line" : Str) 8 false false 4 F_set_line) (G_set_paragraph : Fd P w K mg base ("set_paragraph" : Str) 9 false false 3 F_set_paragraph) (G__law_refusal : Fd P w K mg base ("_law_refusal" : Str) 10 false false 5 F__law_refusal) (G__law_plain : Fd P w K mg base ("_law_plain" : Str) 6 false false 1 F__law_plain) (G__law_line : Fd P w K mg base ("_law_line" : Str) 1 false false 3 F__law_line) (G__law_sums : Fd P w K mg base ("_law_sums" : Str) 1 false false 3 F__law_sums) (G__law_demerits : Fd P w K mg base ("_law_demerits" : Str) 2 false false 4 F__law_demerits) (G__law_set : Fd P w K mg base ("_law_set" : Str) 2 false false 4 F__law_set) (F : FnP K ("law" : Str) ("law" : Str) s_law f fd) (hm : mg ("law" : Str) = some (.ref f)) : FnOk P w K mg base (L2.CX P w) 11 f fd [("script" : Str)] (spD K mg false false 1 F_law) := by
  exact fn_okD (k := 10) F sc_law (by decide) fun cdv A outer s H E c po =>
    (dss_cons (ds_setF c 1 (df_call G__law_deck c (da_cons (de_var 0) (da_cons de_int (da_cons de_int da_nil)))))
    (dss_cons (ds_for po c (di_r1 B (da_cons de_int da_nil)) (dg_name c 2) (dss_cons (ds_set c 3 (de_callIo G__law_items c 1 (pv 1) (da_cons de_int da_nil)))
    (dss_cons (ds_set c 4 (de_call G__law_breaks c (da_cons (de_var 3) da_nil)))
    (dss_cons (ds_for po c (di_seq (de_add (DF.sh (df_lst (da_cons (de_neg de_int) da_nil))) (de_var 4))) (dg_name c 5) (dss_one (ds_for po c (di_seq (de_var 4)) (dg_name c 6) (dss_one (ds_if (dt_w (dw_and (dt_cmp cr_gt (de_var 6) (de_var 5)) (dw_and1 (dt_cmp cr_isNot (de_call G__law_line c (da_cons (de_var 3) (da_cons (de_var 5) (da_cons (de_var 6) da_nil)))) de_non)))) (dss_cons (ds_set c 7 (de_add de_int (de_callIo G__law_take c 1 (pv 1) (da_cons de_int da_nil))))
    (dss_one (ds_if (dt_cmp cr_is (de_call G__law_demerits c (da_cons (de_var 3) (da_cons (de_var 5) (da_cons (de_var 6) (da_cons (de_var 7) da_nil))))) de_non) (dss_one (ds_if (dt_cmp (cr_ne c) (de_call G__law_refusal c (da_cons de_int (da_cons (de_var 3) (da_cons (de_var 5) (da_cons (de_var 6) (da_cons (de_var 7) da_nil)))))) (de_tup (da_cons de_str (da_cons de_str da_nil)))) (dss_one (ds_ret de_bl)) dss_nil)) (dss_cons (ds_asg (de_call G__law_set c (da_cons (de_var 3) (da_cons (de_var 5) (da_cons (de_var 6) (da_cons (de_var 7) da_nil))))) (dg_tup c (dgs_cons (dg_name c 8) (dgs_cons (dg_name c 9) (dgs_cons (dg_name c 10) dgs_nil)))))
    (dss_cons (ds_if (dt_cmp (cr_ne c) (de_call G__law_plain c (da_cons (de_call G_set_line c (da_cons (de_var 3) (da_cons (de_var 5) (da_cons (de_var 6) (da_cons (de_var 7) da_nil))))) da_nil)) (de_call G__law_plain c (da_cons (de_var 8) da_nil))) (dss_one (ds_ret de_bl)) dss_nil)
    (dss_cons (ds_asg (de_call G__law_sums c (da_cons (de_var 3) (da_cons (de_call G__law_line c (da_cons (de_var 3) (da_cons (de_var 5) (da_cons (de_var 6) da_nil)))) (da_cons (de_var 6) da_nil)))) (dg_tup c (dgs_cons (dg_name c 11) (dgs_cons (dg_name c 12) (dgs_cons (dg_name c 13) dgs_nil)))))
    (dss_cons (ds_set c 14 (de_if (dt_cmp (cr_eq c) (de_ix (de_ix (de_var 3) (de_var 6)) de_int) de_str) (de_ix (de_ix (de_var 3) (de_var 6)) de_int) de_int))
    (dss_one (ds_if (dt_w (dw_and (dt_w (dw_or (dt_cmp cr_ge (de_var 11) (de_var 7)) (dw_or1 (dt_cmp cr_gt (de_var 12) de_int)))) (dw_and1 (dt_cmp (cr_ne c) (de_add (de_var 9) (de_mul (de_var 14) (de_var 10))) (de_mul (de_var 7) (de_var 10)))))) (dss_one (ds_ret de_bl)) dss_nil))))))))) dss_nil)))))
    (dss_cons (ds_setLc 15 [(("again" : Str), 19)] c (di_r1 B (da_cons (de_add de_int (de_callIo G__law_take c 1 (pv 1) (da_cons de_int da_nil))) da_nil)) (lg_name 19) (fun _ _ _ _ _ => (dg_name c.blk 19)) (fun _ _ _ _ _ => dts_nil) (fun _ _ _ _ _ => (de_add de_int (de_callIo G__law_take c.blk 1 (pv 1) (da_cons de_int da_nil)))) (ok := blkOk_by (N := [("script" : Str), ("deck" : Str), ("turn" : Str), ("items" : Str), ("known" : Str), ("start" : Str), ("end" : Str), ("width" : Str), ("found" : Str), ("place" : Str), ("below" : Str), ("natural" : Str), ("stretch" : Str), ("shrink" : Str), ("extra" : Str), ("widths" : Str), ("paper" : Str), ("rows" : Str), ("many" : Str), ("again" : Str)]) (sc := defScope s_law) (by decide +kernel)))
    (dss_cons (ds_set c 16 (de_call G_best_breaks c (da_cons (de_var 3) (da_cons (de_var 15) da_nil))))
    (dss_cons (ds_if (dt_cmp (cr_eq c) (de_ix (de_var 16) de_int) de_str) (dss_cons (ds_setF c 17 (df_lst da_nil))
    (dss_cons (ds_set c 5 (de_neg de_int))
    (dss_cons (ds_for po c (di_r1 B (da_cons (de_len B (da_cons (de_ix (de_var 16) de_int) da_nil)) da_nil)) (dg_name c 18) (dss_cons (ds_set c 6 (de_ix (de_ix (de_var 16) de_int) (de_var 18)))
    (dss_cons (ds_expr (de_append 17 (pv 17) (da_cons (de_ix (de_call G__law_set c (da_cons (de_var 3) (da_cons (de_var 5) (da_cons (de_var 6) (da_cons (de_ix (de_var 15) (de_min2 c B (da_cons (de_var 18) (da_cons (de_sub (de_len B (da_cons (de_var 15) da_nil)) de_int) da_nil)))) da_nil))))) de_int) da_nil)))
    (dss_one (ds_set c 5 (de_var 6))))))
    (dss_one (ds_if (dt_cmp (cr_ne c) (de_call G__law_plain c (da_cons (de_call G_set_paragraph c (da_cons (de_var 3) (da_cons (de_var 15) (da_cons (de_ix (de_var 16) de_int) da_nil)))) da_nil)) (de_call G__law_plain c (da_cons (de_var 17) da_nil))) (dss_one (ds_ret de_bl)) dss_nil))))) dss_nil)
    (dss_one (ds_if (dt_cmp (cr_ne c) (de_call G__law_refusal c (da_cons de_int (da_cons (de_var 3) (da_cons (de_var 15) (da_cons (de_sl (de_var 4) do_none (do_some (de_neg de_int))) (da_cons de_non da_nil)))))) (de_tup (da_cons de_str (da_cons de_str da_nil)))) (dss_one (ds_ret de_bl)) dss_nil)))))))))
    (dss_one (ds_ret de_bl))))
end
def fa : List He.Fa := [.glo ("_law_deck" : Str), .glo ("_law_take" : Str), .glo ("_law_items" : Str), .glo ("_law_breaks" : Str), .glo ("is_whole" : Str), .glo ("is_item" : Str), .glo ("is_items" : Str), .glo ("check_items" : Str), .glo ("check_paragraph" : Str), .glo ("is_break" : Str), .glo ("all_breaks" : Str), .glo ("is_forced" : Str), .glo ("line_between" : Str), .glo ("sums_of" : Str), .glo ("badness" : Str), .glo ("has_flag" : Str), .glo ("demerits_of" : Str), .glo ("width_at" : Str), .glo ("next_pairs" : Str), .glo ("reached" : Str), .glo ("best_breaks" : Str), .glo ("check_places" : Str), .glo ("line_of" : Str), .glo ("measures" : Str), .glo ("fraction" : Str), .glo ("set_line" : Str), .glo ("is_list_of_breaks" : Str), .glo ("total_demerits" : Str), .glo ("set_paragraph" : Str), .glo ("_law_refusal" : Str), .glo ("_law_plain" : Str), .glo ("_law_line" : Str), .glo ("_law_sums" : Str), .glo ("_law_badness" : Str), .glo ("_law_demerits" : Str), .glo ("_law_divisor" : Str), .glo ("_law_set" : Str), .glo ("law" : Str), .glo ("InvalidItems" : Str), .glo ("InvalidLength" : Str), .glo ("TooMany" : Str), .glo ("PressError" : Str), .free ("abs" : Str), .free ("all" : Str), .free ("any" : Str), .free ("bool" : Str), .free ("dict" : Str), .free ("enumerate" : Str), .free ("int" : Str), .free ("isinstance" : Str), .free ("len" : Str), .free ("list" : Str), .free ("max" : Str), .free ("min" : Str), .free ("range" : Str), .free ("reversed" : Str), .free ("set" : Str), .free ("sorted" : Str), .free ("str" : Str), .free ("sum" : Str), .free ("tuple" : Str), .free ("zip" : Str), .int ("DOUBLE" : Str) (3000), .int ("FORCED" : Str) (-10000), .int ("MOST_ITEMS" : Str) (400), .int ("NEVER" : Str) (10000), .int ("WORST" : Str) (10000)]
def fn : List He.DefD := [⟨(("_law_deck" : Str), none), ("_law_deck" : Str), ("_law_deck" : Str), defArgs s__law_deck, defBody s__law_deck, defScope s__law_deck, [], []⟩, ⟨(("_law_take" : Str), none), ("_law_take" : Str), ("_law_take" : Str), defArgs s__law_take, defBody s__law_take, defScope s__law_take, [], []⟩, ⟨(("_law_items" : Str), none), ("_law_items" : Str), ("_law_items" : Str), defArgs s__law_items, defBody s__law_items, defScope s__law_items, [], []⟩, ⟨(("_law_breaks" : Str), none), ("_law_breaks" : Str), ("_law_breaks" : Str), defArgs s__law_breaks, defBody s__law_breaks, defScope s__law_breaks, [], []⟩, ⟨(("is_whole" : Str), none), ("is_whole" : Str), ("is_whole" : Str), defArgs s_is_whole, defBody s_is_whole, defScope s_is_whole, [], []⟩, ⟨(("is_item" : Str), none), ("is_item" : Str), ("is_item" : Str), defArgs s_is_item, defBody s_is_item, defScope s_is_item, [], []⟩, ⟨(("is_items" : Str), none), ("is_items" : Str), ("is_items" : Str), defArgs s_is_items, defBody s_is_items, defScope s_is_items, [], []⟩, ⟨(("check_items" : Str), none), ("check_items" : Str), ("check_items" : Str), defArgs s_check_items, defBody s_check_items, defScope s_check_items, [], []⟩, ⟨(("check_paragraph" : Str), none), ("check_paragraph" : Str), ("check_paragraph" : Str), defArgs s_check_paragraph, defBody s_check_paragraph, defScope s_check_paragraph, [], []⟩, ⟨(("is_break" : Str), none), ("is_break" : Str), ("is_break" : Str), defArgs s_is_break, defBody s_is_break, defScope s_is_break, [], []⟩, ⟨(("all_breaks" : Str), none), ("all_breaks" : Str), ("all_breaks" : Str), defArgs s_all_breaks, defBody s_all_breaks, defScope s_all_breaks, [], []⟩, ⟨(("is_forced" : Str), none), ("is_forced" : Str), ("is_forced" : Str), defArgs s_is_forced, defBody s_is_forced, defScope s_is_forced, [], []⟩, ⟨(("line_between" : Str), none), ("line_between" : Str), ("line_between" : Str), defArgs s_line_between, defBody s_line_between, defScope s_line_between, [], []⟩, ⟨(("sums_of" : Str), none), ("sums_of" : Str), ("sums_of" : Str), defArgs s_sums_of, defBody s_sums_of, defScope s_sums_of, [], []⟩, ⟨(("badness" : Str), none), ("badness" : Str), ("badness" : Str), defArgs s_badness, defBody s_badness, defScope s_badness, [], []⟩, ⟨(("has_flag" : Str), none), ("has_flag" : Str), ("has_flag" : Str), defArgs s_has_flag, defBody s_has_flag, defScope s_has_flag, [], []⟩, ⟨(("demerits_of" : Str), none), ("demerits_of" : Str), ("demerits_of" : Str), defArgs s_demerits_of, defBody s_demerits_of, defScope s_demerits_of, [], []⟩, ⟨(("width_at" : Str), none), ("width_at" : Str), ("width_at" : Str), defArgs s_width_at, defBody s_width_at, defScope s_width_at, [], []⟩, ⟨(("next_pairs" : Str), none), ("next_pairs" : Str), ("next_pairs" : Str), defArgs s_next_pairs, defBody s_next_pairs, defScope s_next_pairs, [], []⟩, ⟨(("reached" : Str), none), ("reached" : Str), ("reached" : Str), defArgs s_reached, defBody s_reached, defScope s_reached, [], []⟩, ⟨(("best_breaks" : Str), none), ("best_breaks" : Str), ("best_breaks" : Str), defArgs s_best_breaks, defBody s_best_breaks, defScope s_best_breaks, [], []⟩, ⟨(("check_places" : Str), none), ("check_places" : Str), ("check_places" : Str), defArgs s_check_places, defBody s_check_places, defScope s_check_places, [], []⟩, ⟨(("line_of" : Str), none), ("line_of" : Str), ("line_of" : Str), defArgs s_line_of, defBody s_line_of, defScope s_line_of, [], []⟩, ⟨(("measures" : Str), none), ("measures" : Str), ("measures" : Str), defArgs s_measures, defBody s_measures, defScope s_measures, [], []⟩, ⟨(("fraction" : Str), none), ("fraction" : Str), ("fraction" : Str), defArgs s_fraction, defBody s_fraction, defScope s_fraction, [], []⟩, ⟨(("set_line" : Str), none), ("set_line" : Str), ("set_line" : Str), defArgs s_set_line, defBody s_set_line, defScope s_set_line, [], []⟩, ⟨(("is_list_of_breaks" : Str), none), ("is_list_of_breaks" : Str), ("is_list_of_breaks" : Str), defArgs s_is_list_of_breaks, defBody s_is_list_of_breaks, defScope s_is_list_of_breaks, [], []⟩, ⟨(("total_demerits" : Str), none), ("total_demerits" : Str), ("total_demerits" : Str), defArgs s_total_demerits, defBody s_total_demerits, defScope s_total_demerits, [], []⟩, ⟨(("set_paragraph" : Str), none), ("set_paragraph" : Str), ("set_paragraph" : Str), defArgs s_set_paragraph, defBody s_set_paragraph, defScope s_set_paragraph, [], []⟩, ⟨(("_law_refusal" : Str), none), ("_law_refusal" : Str), ("_law_refusal" : Str), defArgs s__law_refusal, defBody s__law_refusal, defScope s__law_refusal, [], []⟩, ⟨(("_law_plain" : Str), none), ("_law_plain" : Str), ("_law_plain" : Str), defArgs s__law_plain, defBody s__law_plain, defScope s__law_plain, [], []⟩, ⟨(("_law_line" : Str), none), ("_law_line" : Str), ("_law_line" : Str), defArgs s__law_line, defBody s__law_line, defScope s__law_line, [], []⟩, ⟨(("_law_sums" : Str), none), ("_law_sums" : Str), ("_law_sums" : Str), defArgs s__law_sums, defBody s__law_sums, defScope s__law_sums, [], []⟩, ⟨(("_law_badness" : Str), none), ("_law_badness" : Str), ("_law_badness" : Str), defArgs s__law_badness, defBody s__law_badness, defScope s__law_badness, [], []⟩, ⟨(("_law_demerits" : Str), none), ("_law_demerits" : Str), ("_law_demerits" : Str), defArgs s__law_demerits, defBody s__law_demerits, defScope s__law_demerits, [], []⟩, ⟨(("_law_divisor" : Str), none), ("_law_divisor" : Str), ("_law_divisor" : Str), defArgs s__law_divisor, defBody s__law_divisor, defScope s__law_divisor, [], []⟩, ⟨(("_law_set" : Str), none), ("_law_set" : Str), ("_law_set" : Str), defArgs s__law_set, defBody s__law_set, defScope s__law_set, [], []⟩, ⟨(("law" : Str), none), ("law" : Str), ("law" : Str), defArgs s_law, defBody s_law, defScope s_law, [], []⟩, ⟨(("InvalidItems" : Str), some "__init__"), "__init__", "InvalidItems.__init__", defArgs i_InvalidItems, defBody i_InvalidItems, defScope i_InvalidItems, [], []⟩, ⟨(("InvalidLength" : Str), some "__init__"), "__init__", "InvalidLength.__init__", defArgs i_InvalidLength, defBody i_InvalidLength, defScope i_InvalidLength, [], []⟩, ⟨(("TooMany" : Str), some "__init__"), "__init__", "TooMany.__init__", defArgs i_TooMany, defBody i_TooMany, defScope i_TooMany, [], []⟩]
def ex (K : PySem.W.Frag) : Bool := (ecB K ("InvalidItems" : Str) "what" && (ecB K ("InvalidLength" : Str) "what" && (ecB K ("TooMany" : Str) "what" && (peB K "PressError" && (exmB K errs && bltB K ("gcd" : Str) "math.gcd")))))
abbrev R : PySem.W.OpenRow := PySem.W.OpenLaw.row PySem.Challenge.rw_presswork_k70_whole_lines_set
abbrev hk : PySem.W.Hook := hookY 4 fa fn ex
def ob (s : PySem.W.SharedT) : AlY := obsY 4 fa fn ex (HandSHeadRun.getT s)
theorem ob_eq (s : PySem.W.SharedT) : ob s = hk.obs s.abs := obsY_eq (HandSHeadRun.getT_eq s)
theorem run (w : World) : HandSHeadRun.RunEqI R (PySem.W.view R.prog [0, 52]) hk ob 3000 [("PressError" : Str), ("InvalidLength" : Str), ("InvalidItems" : Str), ("TooMany" : Str), ("MOST_ITEMS" : Str), ("NEVER" : Str), ("FORCED" : Str), ("is_whole" : Str), ("is_item" : Str), ("is_items" : Str), ("check_items" : Str), ("check_paragraph" : Str), ("is_break" : Str), ("is_forced" : Str), ("all_breaks" : Str), ("line_between" : Str), ("check_places" : Str), ("line_of" : Str), ("sums_of" : Str), ("measures" : Str), ("WORST" : Str), ("DOUBLE" : Str), ("badness" : Str), ("has_flag" : Str), ("demerits_of" : Str), ("width_at" : Str), ("next_pairs" : Str), ("reached" : Str), ("best_breaks" : Str), ("is_list_of_breaks" : Str), ("total_demerits" : Str), ("fraction" : Str), ("set_line" : Str), ("set_paragraph" : Str), ("_law_deck" : Str), ("_law_take" : Str), ("_law_plain" : Str), ("_law_items" : Str), ("_law_breaks" : Str), ("_law_line" : Str), ("_law_sums" : Str), ("_law_badness" : Str), ("_law_demerits" : Str), ("_law_divisor" : Str), ("_law_set" : Str), ("_law_refusal" : Str)] w := by
  unfold HandSHeadRun.RunEqI
  kernel_rfl
def F_top : Prop := ∀ ns : List Int, ns.length ≤ 63 → ∃ q, F_law [.klst (ns.map .int)] = .ok (.bl true) q
theorem facts (top_ok : F_top) {P : Program} {w : World} {K : PySem.W.Frag} {h : Heap} {mg : Str → Option Value} {f : Addr} (X : K.In h) (G : h.Ns mainGlobals mg) (hfa : mg ("law" : Str) = some (.ref f)) (c : SaysY fa fn ex w K) :
    ∃ fd : FuncData, (∀ (s : Shared) (v : Value), BindsTo s fd ⟨[v], []⟩ [("script", v)]) ∧ ∀ base : Heap, K.In base → base.Ns mainGlobals mg → FnOk P w K mg base (L2.CX P w) 11 f fd ["script"] (spTop K) := by
  have more : ex K = true := c.more
  have c := c.t.d
  obtain ⟨fd__law_deck, D__law_deck⟩ := c.def_ 0 (d := fn[0]) rfl
  obtain ⟨fd__law_take, D__law_take⟩ := c.def_ 1 (d := fn[1]) rfl
  obtain ⟨fd__law_items, D__law_items⟩ := c.def_ 2 (d := fn[2]) rfl
  obtain ⟨fd__law_breaks, D__law_breaks⟩ := c.def_ 3 (d := fn[3]) rfl
  obtain ⟨fd_is_whole, D_is_whole⟩ := c.def_ 4 (d := fn[4]) rfl
  obtain ⟨fd_is_item, D_is_item⟩ := c.def_ 5 (d := fn[5]) rfl
  obtain ⟨fd_is_items, D_is_items⟩ := c.def_ 6 (d := fn[6]) rfl
  obtain ⟨fd_check_items, D_check_items⟩ := c.def_ 7 (d := fn[7]) rfl
  obtain ⟨fd_check_paragraph, D_check_paragraph⟩ := c.def_ 8 (d := fn[8]) rfl
  obtain ⟨fd_is_break, D_is_break⟩ := c.def_ 9 (d := fn[9]) rfl
  obtain ⟨fd_all_breaks, D_all_breaks⟩ := c.def_ 10 (d := fn[10]) rfl
  obtain ⟨fd_is_forced, D_is_forced⟩ := c.def_ 11 (d := fn[11]) rfl
  obtain ⟨fd_line_between, D_line_between⟩ := c.def_ 12 (d := fn[12]) rfl
  obtain ⟨fd_sums_of, D_sums_of⟩ := c.def_ 13 (d := fn[13]) rfl
  obtain ⟨fd_badness, D_badness⟩ := c.def_ 14 (d := fn[14]) rfl
  obtain ⟨fd_has_flag, D_has_flag⟩ := c.def_ 15 (d := fn[15]) rfl
  obtain ⟨fd_demerits_of, D_demerits_of⟩ := c.def_ 16 (d := fn[16]) rfl
  obtain ⟨fd_width_at, D_width_at⟩ := c.def_ 17 (d := fn[17]) rfl
  obtain ⟨fd_next_pairs, D_next_pairs⟩ := c.def_ 18 (d := fn[18]) rfl
  obtain ⟨fd_reached, D_reached⟩ := c.def_ 19 (d := fn[19]) rfl
  obtain ⟨fd_best_breaks, D_best_breaks⟩ := c.def_ 20 (d := fn[20]) rfl
  obtain ⟨fd_check_places, D_check_places⟩ := c.def_ 21 (d := fn[21]) rfl
  obtain ⟨fd_line_of, D_line_of⟩ := c.def_ 22 (d := fn[22]) rfl
  obtain ⟨fd_measures, D_measures⟩ := c.def_ 23 (d := fn[23]) rfl
  obtain ⟨fd_fraction, D_fraction⟩ := c.def_ 24 (d := fn[24]) rfl
  obtain ⟨fd_set_line, D_set_line⟩ := c.def_ 25 (d := fn[25]) rfl
  obtain ⟨fd_is_list_of_breaks, D_is_list_of_breaks⟩ := c.def_ 26 (d := fn[26]) rfl
  obtain ⟨fd_total_demerits, D_total_demerits⟩ := c.def_ 27 (d := fn[27]) rfl
  obtain ⟨fd_set_paragraph, D_set_paragraph⟩ := c.def_ 28 (d := fn[28]) rfl
  obtain ⟨fd__law_refusal, D__law_refusal⟩ := c.def_ 29 (d := fn[29]) rfl
  obtain ⟨fd__law_plain, D__law_plain⟩ := c.def_ 30 (d := fn[30]) rfl
  obtain ⟨fd__law_line, D__law_line⟩ := c.def_ 31 (d := fn[31]) rfl
  obtain ⟨fd__law_sums, D__law_sums⟩ := c.def_ 32 (d := fn[32]) rfl
  obtain ⟨fd__law_badness, D__law_badness⟩ := c.def_ 33 (d := fn[33]) rfl
  obtain ⟨fd__law_demerits, D__law_demerits⟩ := c.def_ 34 (d := fn[34]) rfl
  obtain ⟨fd__law_divisor, D__law_divisor⟩ := c.def_ 35 (d := fn[35]) rfl
  obtain ⟨fd__law_set, D__law_set⟩ := c.def_ 36 (d := fn[36]) rfl
  obtain ⟨fd_law, D_law⟩ := c.def_ 37 (d := fn[37]) rfl
  obtain ⟨fd_InvalidItems, D_InvalidItems⟩ := c.def_ 38 (d := fn[38]) rfl
  obtain ⟨fd_InvalidLength, D_InvalidLength⟩ := c.def_ 39 (d := fn[39]) rfl
  obtain ⟨fd_TooMany, D_TooMany⟩ := c.def_ 40 (d := fn[40]) rfl
  have m__law_deck := He.glo_ok X G (c.fact 0 (f := .glo ("_law_deck" : Str)) rfl)
  have m__law_take := He.glo_ok X G (c.fact 1 (f := .glo ("_law_take" : Str)) rfl)
  have m__law_items := He.glo_ok X G (c.fact 2 (f := .glo ("_law_items" : Str)) rfl)
  have m__law_breaks := He.glo_ok X G (c.fact 3 (f := .glo ("_law_breaks" : Str)) rfl)
  have m_is_whole := He.glo_ok X G (c.fact 4 (f := .glo ("is_whole" : Str)) rfl)
  have m_is_item := He.glo_ok X G (c.fact 5 (f := .glo ("is_item" : Str)) rfl)
  have m_is_items := He.glo_ok X G (c.fact 6 (f := .glo ("is_items" : Str)) rfl)
  have m_check_items := He.glo_ok X G (c.fact 7 (f := .glo ("check_items" : Str)) rfl)
  have m_check_paragraph := He.glo_ok X G (c.fact 8 (f := .glo ("check_paragraph" : Str)) rfl)
  have m_is_break := He.glo_ok X G (c.fact 9 (f := .glo ("is_break" : Str)) rfl)
  have m_all_breaks := He.glo_ok X G (c.fact 10 (f := .glo ("all_breaks" : Str)) rfl)
  have m_is_forced := He.glo_ok X G (c.fact 11 (f := .glo ("is_forced" : Str)) rfl)
  have m_line_between := He.glo_ok X G (c.fact 12 (f := .glo ("line_between" : Str)) rfl)
  have m_sums_of := He.glo_ok X G (c.fact 13 (f := .glo ("sums_of" : Str)) rfl)
  have m_badness := He.glo_ok X G (c.fact 14 (f := .glo ("badness" : Str)) rfl)
  have m_has_flag := He.glo_ok X G (c.fact 15 (f := .glo ("has_flag" : Str)) rfl)
  have m_demerits_of := He.glo_ok X G (c.fact 16 (f := .glo ("demerits_of" : Str)) rfl)
  have m_width_at := He.glo_ok X G (c.fact 17 (f := .glo ("width_at" : Str)) rfl)
  have m_next_pairs := He.glo_ok X G (c.fact 18 (f := .glo ("next_pairs" : Str)) rfl)
  have m_reached := He.glo_ok X G (c.fact 19 (f := .glo ("reached" : Str)) rfl)
  have m_best_breaks := He.glo_ok X G (c.fact 20 (f := .glo ("best_breaks" : Str)) rfl)
  have m_check_places := He.glo_ok X G (c.fact 21 (f := .glo ("check_places" : Str)) rfl)
  have m_line_of := He.glo_ok X G (c.fact 22 (f := .glo ("line_of" : Str)) rfl)
  have m_measures := He.glo_ok X G (c.fact 23 (f := .glo ("measures" : Str)) rfl)
  have m_fraction := He.glo_ok X G (c.fact 24 (f := .glo ("fraction" : Str)) rfl)
  have m_set_line := He.glo_ok X G (c.fact 25 (f := .glo ("set_line" : Str)) rfl)
  have m_is_list_of_breaks := He.glo_ok X G (c.fact 26 (f := .glo ("is_list_of_breaks" : Str)) rfl)
  have m_total_demerits := He.glo_ok X G (c.fact 27 (f := .glo ("total_demerits" : Str)) rfl)
  have m_set_paragraph := He.glo_ok X G (c.fact 28 (f := .glo ("set_paragraph" : Str)) rfl)
  have m__law_refusal := He.glo_ok X G (c.fact 29 (f := .glo ("_law_refusal" : Str)) rfl)
  have m__law_plain := He.glo_ok X G (c.fact 30 (f := .glo ("_law_plain" : Str)) rfl)
  have m__law_line := He.glo_ok X G (c.fact 31 (f := .glo ("_law_line" : Str)) rfl)
  have m__law_sums := He.glo_ok X G (c.fact 32 (f := .glo ("_law_sums" : Str)) rfl)
  have m__law_badness := He.glo_ok X G (c.fact 33 (f := .glo ("_law_badness" : Str)) rfl)
  have m__law_demerits := He.glo_ok X G (c.fact 34 (f := .glo ("_law_demerits" : Str)) rfl)
  have m__law_divisor := He.glo_ok X G (c.fact 35 (f := .glo ("_law_divisor" : Str)) rfl)
  have m__law_set := He.glo_ok X G (c.fact 36 (f := .glo ("_law_set" : Str)) rfl)
  have m_law := He.glo_ok X G (c.fact 37 (f := .glo ("law" : Str)) rfl)
  have m_InvalidItems := He.glo_ok X G (c.fact 38 (f := .glo ("InvalidItems" : Str)) rfl)
  have m_InvalidLength := He.glo_ok X G (c.fact 39 (f := .glo ("InvalidLength" : Str)) rfl)
  have m_TooMany := He.glo_ok X G (c.fact 40 (f := .glo ("TooMany" : Str)) rfl)
  have m_PressError := He.glo_ok X G (c.fact 41 (f := .glo ("PressError" : Str)) rfl)
  have h_DOUBLE := He.int_ok X G (c.fact 62 (f := .int ("DOUBLE" : Str) (3000)) rfl)
  have h_FORCED := He.int_ok X G (c.fact 63 (f := .int ("FORCED" : Str) (-10000)) rfl)
  have h_MOST_ITEMS := He.int_ok X G (c.fact 64 (f := .int ("MOST_ITEMS" : Str) (400)) rfl)
  have h_NEVER := He.int_ok X G (c.fact 65 (f := .int ("NEVER" : Str) (10000)) rfl)
  have h_WORST := He.int_ok X G (c.fact 66 (f := .int ("WORST" : Str) (10000)) rfl)
  have B : Bi mg := ⟨He.free_ok X G (c.fact 50 (f := .free ("len" : Str)) rfl), He.free_ok X G (c.fact 42 (f := .free ("abs" : Str)) rfl), He.free_ok X G (c.fact 52 (f := .free ("max" : Str)) rfl), He.free_ok X G (c.fact 53 (f := .free ("min" : Str)) rfl), He.free_ok X G (c.fact 48 (f := .free ("int" : Str)) rfl), He.free_ok X G (c.fact 59 (f := .free ("sum" : Str)) rfl), He.free_ok X G (c.fact 54 (f := .free ("range" : Str)) rfl), He.free_ok X G (c.fact 51 (f := .free ("list" : Str)) rfl), He.free_ok X G (c.fact 60 (f := .free ("tuple" : Str)) rfl), He.free_ok X G (c.fact 57 (f := .free ("sorted" : Str)) rfl), He.free_ok X G (c.fact 56 (f := .free ("set" : Str)) rfl), He.free_ok X G (c.fact 61 (f := .free ("zip" : Str)) rfl), He.free_ok X G (c.fact 47 (f := .free ("enumerate" : Str)) rfl), He.free_ok X G (c.fact 55 (f := .free ("reversed" : Str)) rfl), He.free_ok X G (c.fact 49 (f := .free ("isinstance" : Str)) rfl), He.free_ok X G (c.fact 58 (f := .free ("str" : Str)) rfl), He.free_ok X G (c.fact 45 (f := .free ("bool" : Str)) rfl), He.free_ok X G (c.fact 46 (f := .free ("dict" : Str)) rfl), He.free_ok X G (c.fact 44 (f := .free ("any" : Str)) rfl), He.free_ok X G (c.fact 43 (f := .free ("all" : Str)) rfl)⟩
  unfold ex at more
  simp only [Bool.and_eq_true] at more
  obtain ⟨x_InvalidItems, x_InvalidLength, x_TooMany, x_pe, exm, k_gcd⟩ := more
  have h_gcd := bltB_ok X G k_gcd
  have T := peB_ok x_pe
  have hms : ∀ y ∈ errs, mg y = some (.ref (He.ga K y)) := by
    intro y hy
    simp only [errs, List.mem_cons, List.not_mem_nil, or_false] at hy
    rcases hy with rfl | rfl | rfl
    · exact m_InvalidItems
    · exact m_InvalidLength
    · exact m_TooMany
  have e := hfa.symm.trans m_law
  cases e
  refine ⟨fd_law, fun s v => FunD.bindsA (ps := ["script"]) D_law (fun _ _ _ _ _ _ us hl => match us, hl with | [_], _ => rfl) s [v] rfl, fun base _ _ => ?_⟩
  have e_InvalidItems : Ec P w K mg base ("InvalidItems" : Str) "what" := E_InvalidItems (ecB_ok x_InvalidItems) m_InvalidItems T m_PressError D_InvalidItems
  have e_InvalidLength : Ec P w K mg base ("InvalidLength" : Str) "what" := E_InvalidLength (ecB_ok x_InvalidLength) m_InvalidLength T m_PressError D_InvalidLength
  have e_TooMany : Ec P w K mg base ("TooMany" : Str) "what" := E_TooMany (ecB_ok x_TooMany) m_TooMany T m_PressError D_TooMany
  have g__law_deck : Fd P w K mg base ("_law_deck" : Str) 1 false true 3 F__law_deck := G__law_deck B D__law_deck m__law_deck
  have g__law_take : Fd P w K mg base ("_law_take" : Str) 1 true false 2 F__law_take := G__law_take B D__law_take m__law_take
  have g__law_items : Fd P w K mg base ("_law_items" : Str) 2 true false 2 F__law_items := G__law_items B g__law_take D__law_items m__law_items
  have g__law_breaks : Fd P w K mg base ("_law_breaks" : Str) 1 false false 1 F__law_breaks := G__law_breaks B D__law_breaks m__law_breaks
  have g_is_whole : Fd P w K mg base ("is_whole" : Str) 1 false false 1 F_is_whole := G_is_whole B D_is_whole m_is_whole
  have g_is_item : Fd P w K mg base ("is_item" : Str) 2 false false 1 F_is_item := G_is_item B h_FORCED h_NEVER g_is_whole D_is_item m_is_item
  have g_is_items : Fd P w K mg base ("is_items" : Str) 3 false false 1 F_is_items := G_is_items B h_FORCED g_is_item D_is_items m_is_items
  have g_check_items : Fd P w K mg base ("check_items" : Str) 4 false false 1 F_check_items := G_check_items B e_InvalidItems g_is_items D_check_items m_check_items
  have g_check_paragraph : Fd P w K mg base ("check_paragraph" : Str) 5 false false 2 F_check_paragraph := G_check_paragraph B h_MOST_ITEMS e_InvalidLength e_TooMany g_check_items D_check_paragraph m_check_paragraph
  have g_is_break : Fd P w K mg base ("is_break" : Str) 1 false false 2 F_is_break := G_is_break B h_NEVER D_is_break m_is_break
  have g_all_breaks : Fd P w K mg base ("all_breaks" : Str) 2 false false 1 F_all_breaks := G_all_breaks B g_is_break D_all_breaks m_all_breaks
  have g_is_forced : Fd P w K mg base ("is_forced" : Str) 1 false false 2 F_is_forced := G_is_forced B h_FORCED D_is_forced m_is_forced
  have g_line_between : Fd P w K mg base ("line_between" : Str) 2 false false 3 F_line_between := G_line_between B g_is_forced D_line_between m_line_between
  have g_sums_of : Fd P w K mg base ("sums_of" : Str) 1 false false 3 F_sums_of := G_sums_of B D_sums_of m_sums_of
  have g_badness : Fd P w K mg base ("badness" : Str) 1 false false 4 F_badness := G_badness B h_WORST D_badness m_badness
  have g_has_flag : Fd P w K mg base ("has_flag" : Str) 1 false false 2 F_has_flag := G_has_flag B D_has_flag m_has_flag
  have g_demerits_of : Fd P w K mg base ("demerits_of" : Str) 3 false false 4 F_demerits_of := G_demerits_of B h_DOUBLE h_FORCED g_line_between g_sums_of g_badness g_has_flag D_demerits_of m_demerits_of
  have g_width_at : Fd P w K mg base ("width_at" : Str) 1 false false 2 F_width_at := G_width_at B D_width_at m_width_at
  have g_next_pairs : Fd P w K mg base ("next_pairs" : Str) 4 false false 4 F_next_pairs := G_next_pairs B g_demerits_of g_width_at D_next_pairs m_next_pairs
  have g_reached : Fd P w K mg base ("reached" : Str) 5 false false 2 F_reached := G_reached B g_all_breaks g_next_pairs D_reached m_reached
  have g_best_breaks : Fd P w K mg base ("best_breaks" : Str) 6 false false 2 F_best_breaks := G_best_breaks B g_check_paragraph g_reached D_best_breaks m_best_breaks
  have g_check_places : Fd P w K mg base ("check_places" : Str) 5 false false 3 F_check_places := G_check_places B e_InvalidItems g_check_items g_all_breaks D_check_places m_check_places
  have g_line_of : Fd P w K mg base ("line_of" : Str) 6 false false 3 F_line_of := G_line_of B g_line_between g_check_places D_line_of m_line_of
  have g_measures : Fd P w K mg base ("measures" : Str) 7 false false 3 F_measures := G_measures B e_InvalidItems g_sums_of g_line_of D_measures m_measures
  have g_fraction : Fd P w K mg base ("fraction" : Str) 1 false false 2 F_fraction := G_fraction B h_gcd D_fraction m_fraction
  have g_set_line : Fd P w K mg base ("set_line" : Str) 8 false false 4 F_set_line := G_set_line B e_InvalidLength g_badness g_line_of g_measures g_fraction D_set_line m_set_line
  have g_is_list_of_breaks : Fd P w K mg base ("is_list_of_breaks" : Str) 3 false false 2 F_is_list_of_breaks := G_is_list_of_breaks B g_all_breaks D_is_list_of_breaks m_is_list_of_breaks
  have g_total_demerits : Fd P w K mg base ("total_demerits" : Str) 6 false false 3 F_total_demerits := G_total_demerits B g_check_paragraph g_demerits_of g_width_at g_is_list_of_breaks D_total_demerits m_total_demerits
  have g_set_paragraph : Fd P w K mg base ("set_paragraph" : Str) 9 false false 3 F_set_paragraph := G_set_paragraph B e_InvalidItems g_width_at g_set_line g_total_demerits D_set_paragraph m_set_paragraph
  have g__law_refusal : Fd P w K mg base ("_law_refusal" : Str) 10 false false 5 F__law_refusal := G__law_refusal B e_InvalidItems e_InvalidLength exm hms g_set_line g_set_paragraph D__law_refusal m__law_refusal
  have g__law_plain : Fd P w K mg base ("_law_plain" : Str) 6 false false 1 F__law_plain := G__law_plain B D__law_plain m__law_plain 5
  have g__law_line : Fd P w K mg base ("_law_line" : Str) 1 false false 3 F__law_line := G__law_line B D__law_line m__law_line
  have g__law_sums : Fd P w K mg base ("_law_sums" : Str) 1 false false 3 F__law_sums := G__law_sums B D__law_sums m__law_sums
  have g__law_badness : Fd P w K mg base ("_law_badness" : Str) 1 false false 4 F__law_badness := G__law_badness B D__law_badness m__law_badness
  have g__law_demerits : Fd P w K mg base ("_law_demerits" : Str) 2 false false 4 F__law_demerits := G__law_demerits B g__law_line g__law_sums g__law_badness D__law_demerits m__law_demerits
  have g__law_divisor : Fd P w K mg base ("_law_divisor" : Str) 1 false false 2 F__law_divisor := G__law_divisor B D__law_divisor m__law_divisor
  have g__law_set : Fd P w K mg base ("_law_set" : Str) 2 false false 4 F__law_set := G__law_set B g__law_line g__law_sums g__law_divisor D__law_set m__law_set
  exact fd_top (G_law B g__law_deck g__law_take g__law_items g__law_breaks g_best_breaks g_set_line g_set_paragraph g__law_refusal g__law_plain g__law_line g__law_sums g__law_demerits g__law_set D_law m_law) top_ok
end PL.K70

set_option Elab.async false
set_option linter.all false
set_option maxRecDepth 100000
set_option maxHeartbeats 4000000
namespace PL.K70
open PySem PySem.Spec L2 PL
set_option autoImplicit false
/-! ### the items -/
inductive Item
  | box (w : Nat) (t : Str)
  | glue (w a b : Nat)
  | pen (w : Nat) (c : Int) (f : Bool)
def itP : Item → PV
  | .box w t => .tup [.str "box", .int w, .str t]
  | .glue w a b => .tup [.str "glue", .int w, .int a, .int b]
  | .pen w c f => .tup [.str "penalty", .int w, .int c, .bl f]
def Item.ok : Item → Prop
  | .box w t => True
  | .glue w a b => b ≤ w
  | .pen w c f => -10000 ≤ c ∧ c ≤ 10000
def Item.sm : Item → Prop
  | .box w t => w ≤ 100
  | .glue w a b => w ≤ 100 ∧ a ≤ 100 ∧ b ≤ 100
  | .pen w c f => w ≤ 100
def Item.tx : Item → Prop
  | .box w t => PyData.canLay0 (.str t) = true
  | _ => True
def kind : Item → Str
  | .box .. => "box"
  | .glue .. => "glue"
  | .pen .. => "penalty"
def isBox : Item → Bool
  | .box .. => true
  | _ => false
def isGlue : Item → Bool
  | .glue .. => true
  | _ => false
def isPen : Item → Bool
  | .pen .. => true
  | _ => false
theorem ix0 (i : Item) : gIx (itP i) (.int 0) = some (.str (kind i)) := by cases i <;> rfl
theorem kd_box (i : Item) : gEq (.str (kind i)) (.str "box") = some (.bl (isBox i)) := by cases i <;> kernel_rfl
theorem kd_glue (i : Item) : gEq (.str (kind i)) (.str "glue") = some (.bl (isGlue i)) := by cases i <;> kernel_rfl
theorem kd_pen (i : Item) : gEq (.str (kind i)) (.str "penalty") = some (.bl (isPen i)) := by cases i <;> kernel_rfl
theorem kn_box (i : Item) : gNe (.str (kind i)) (.str "box") = some (.bl (!isBox i)) := by cases i <;> kernel_rfl
theorem kn_pen (i : Item) : gNe (.str (kind i)) (.str "penalty") = some (.bl (!isPen i)) := by cases i <;> kernel_rfl
theorem is1 (a : Int) : gIsi "int" (.int a) = some (.bl true) := by kernel_rfl
theorem is2 (a : Int) : gIsi "bool" (.int a) = some (.bl false) := by kernel_rfl
theorem is3 (l : List PV) : gIsi "tuple" (.tup l) = some (.bl true) := by kernel_rfl
theorem is4 (x : Str) : gIsi "str" (.str x) = some (.bl true) := by kernel_rfl
theorem is5 (b : Bool) : gIsi "bool" (.bl b) = some (.bl true) := by kernel_rfl

theorem tr_tup (p : PV) (l : List PV) : truth (.tup (p :: l)) = some true := rfl
theorem F_is_whole_ok (a : Int) : F_is_whole [.int a] = .ok (.bl true) .non := by
  simp [F_is_whole, den_is_whole, runD, argSl, List.replicate, fin0, is1, is2, tr_bl]
theorem k_bb : gEq (.str "box") (.str "box") = some (.bl true) := by kernel_rfl
theorem k_gb : gEq (.str "glue") (.str "box") = some (.bl false) := by kernel_rfl
theorem k_pb : gEq (.str "penalty") (.str "box") = some (.bl false) := by kernel_rfl
theorem k_gg : gEq (.str "glue") (.str "glue") = some (.bl true) := by kernel_rfl
theorem k_pg : gEq (.str "penalty") (.str "glue") = some (.bl false) := by kernel_rfl
theorem k_pp : gEq (.str "penalty") (.str "penalty") = some (.bl true) := by kernel_rfl
theorem F_is_item_ok (i : Item) (h : i.ok) : F_is_item [itP i] = .ok (.bl true) .non := by
  cases i with
  | box w t => simp [F_is_item, den_is_item, runD, argSl, List.replicate, fin0, itP, k_bb, F_is_whole_ok, is3, is4, is5, tr_bl, tr_tup, at0, at1, at2, at3]
  | glue w a b =>
    have h : b ≤ w := h
    have hw : ¬ (w : Int) < 0 := by omega
    simp [F_is_item, den_is_item, runD, argSl, List.replicate, fin0, itP, k_gb, k_gg, F_is_whole_ok, is3, is4, is5, tr_bl, tr_tup, at0, at1, at2, at3, h, hw]
  | pen w c f =>
    obtain ⟨h1, h2⟩ : -10000 ≤ c ∧ c ≤ 10000 := h
    have hw : ¬ (w : Int) < 0 := by omega
    simp [F_is_item, den_is_item, runD, argSl, List.replicate, fin0, itP, k_pb, k_pg, k_pp, F_is_whole_ok, is3, is4, is5, tr_bl, tr_tup, at0, at1, at2, at3, c_FORCED, c_NEVER, h1, h2, hw]
theorem px2 (w : Nat) (c : Int) (f : Bool) : gIx (itP (.pen w c f)) (.int 2) = some (.int c) := rfl
def itsP (l : List Item) : PV := .lst (l.map itP)
theorem ix_items (l : List Item) (i : Nat) (h : i < l.length) : gIx (itsP l) (.int (i : Nat)) = some (itP l[i]) := by
  show atI (l.map itP) (i : Nat) = _
  rw [atI_nat (by simpa using h)]
  simp
def brk (l : List Item) (i : Nat) : Bool := match l[i]? with
  | some (.pen _ c _) => decide (c < 10000)
  | some (.glue _ _ _) => decide (0 < i) && (match l[i - 1]? with
    | some x => isBox x
    | none => false)
  | _ => false
theorem F_is_break_ok (l : List Item) (i : Nat) (h : i < l.length) : F_is_break [itsP l, .int (i : Nat)] = .ok (.bl (brk l i)) .non := by
  have e := ix_items l i h
  unfold brk
  rw [List.getElem?_eq_getElem h]
  cases hx : l[i] with
  | box w t =>
    rw [hx] at e
    simp [F_is_break, den_is_break, runD, argSl, List.replicate, fin0, tr_bl, e, ix0, kd_pen, kd_glue, isPen, isGlue]
  | pen w c f =>
    rw [hx] at e
    simp [F_is_break, den_is_break, runD, argSl, List.replicate, fin0, tr_bl, e, ix0, kd_pen, kd_glue, isPen, isGlue, px2, c_NEVER]
  | glue w a b =>
    rw [hx] at e
    by_cases hz : 0 < i
    · have e2 := ix_items l (i - 1) (by omega)
      have e3 : ((i - 1 : Nat) : Int) = (i : Int) - 1 := by omega
      rw [e3] at e2
      rw [List.getElem?_eq_getElem (by omega : i - 1 < l.length)]
      simp [F_is_break, den_is_break, runD, argSl, List.replicate, fin0, tr_bl, e, e2, ix0, kd_pen, kd_glue, kd_box, isPen, isGlue, hz]
    · simp [F_is_break, den_is_break, runD, argSl, List.replicate, fin0, tr_bl, e, ix0, kd_pen, kd_glue, isPen, isGlue, hz]
def frc (l : List Item) (i : Nat) : Bool := match l[i]? with
  | some (.pen _ c _) => decide (c = -10000)
  | _ => false
theorem F_is_forced_ok (l : List Item) (i : Nat) (h : i < l.length) : F_is_forced [itsP l, .int (i : Nat)] = .ok (.bl (frc l i)) .non := by
  have e := ix_items l i h
  unfold frc
  rw [List.getElem?_eq_getElem h]
  cases hx : l[i] with
  | box w t =>
    rw [hx] at e
    simp [F_is_forced, den_is_forced, runD, argSl, List.replicate, fin0, tr_bl, e, ix0, kd_pen, isPen]
  | pen w c f =>
    rw [hx] at e
    simp [F_is_forced, den_is_forced, runD, argSl, List.replicate, fin0, tr_bl, e, ix0, kd_pen, isPen, px2, c_FORCED]
  | glue w a b =>
    rw [hx] at e
    simp [F_is_forced, den_is_forced, runD, argSl, List.replicate, fin0, tr_bl, e, ix0, kd_pen, isPen]
def nP (l : List Nat) : PV := .lst (l.map fun i : Nat => PV.int (i : Nat))
def brks (l : List Item) : List Nat := (List.range l.length).filter (brk l)
theorem F_all_breaks_ok (l : List Item) (h : l.length ≤ 400) : F_all_breaks [itsP l] = .ok (nP (brks l)) .non := by
  have h1 : l.length ≤ sizeLine := szn (by omega)
  have L : dLc [1] (iR1 (dCons (dN gLenN (dCons (dVar 0) dNil)) dNil)) (gName 1) T_all_breaks_1 E_all_breaks_1 [.sh (itsP l), .un] = .ok (nP (brks l)) [.sh (itsP l), .un] :=
    dLc_okF (fun i : Nat => PV.int (i : Nat)) (fun i : Nat => PV.int (i : Nat)) (brk l) (List.range l.length) (by simp [itsP, rangeP_map, h1, rg1_nat (show l.length ≤ 1000000000 by omega)]) rfl (by simp; omega)
      (fun c hc => by simp [T_all_breaks_1, Sl.lock, F_is_break_ok l c (List.mem_range.mp hc), tr_bl]) (fun c hc _ => by simp [E_all_breaks_1, Sl.lock])
  refine run_rt (env := [.sh (itsP l), .un]) (ρ := [.sh (itsP l), .un]) ?_
  unfold den_all_breaks
  rw [ap_sRet, L]
  rfl
theorem F_check_one (l : List Item) (h : ∀ i ∈ l, i.ok) (hl : l.length ≤ 400) : dLc [1] (iSeq (dVar 0)) (gName 1) T_is_items_1 E_is_items_1 [.sh (itsP l), .un] = .ok (.lst []) [.sh (itsP l), .un] := by
  have L := dLc_okF (T := T_is_items_1) (E := E_is_items_1) (i := 1) (di := iSeq (dVar 0)) (ρ := [.sh (itsP l), .un]) itP itP (fun _ => false) l (by simp [itsP]) rfl (by omega)
    (fun c hc => by simp [T_is_items_1, Sl.lock, F_is_item_ok c (h c hc), tr_bl]) (fun c hc e => nomatch e)
  have e : List.filter (fun _ : Item => false) l = [] := by simp
  rw [e] at L
  exact L
theorem F_check_two (l : List Item) (hl : l.length ≤ 400) : dLc [1] (iSeq (dVar 0)) (gName 1) T_is_items_2 E_is_items_2 [.sh (itsP l), .un] = .ok (itsP (l.filter isBox)) [.sh (itsP l), .un] :=
  dLc_okF (T := T_is_items_2) (E := E_is_items_2) (i := 1) (di := iSeq (dVar 0)) (ρ := [.sh (itsP l), .un]) itP itP isBox l (by simp [itsP]) rfl (by omega)
    (fun c hc => by simp [T_is_items_2, Sl.lock, ix0, kd_box]) (fun c hc _ => by simp [E_is_items_2, Sl.lock])
theorem ix_last (l : List Item) (x : Item) : gIx (itsP (l ++ [x])) (.int (-1)) = some (itP x) := by
  show atI ((l ++ [x]).map itP) (-1) = _
  unfold atI ixN
  have e : ((l ++ [x]).map itP).length = l.length + 1 := by simp
  rw [e, if_neg (by omega), if_pos (by omega)]
  have e2 : ((-1 : Int) + ((l.length + 1 : Nat) : Int)).toNat = l.length := by omega
  rw [e2]
  simp
structure Good (l : List Item) : Prop where
  ok : ∀ i ∈ l, i.ok
  len : l.length ≤ 400
  last : ∃ m, l = m ++ [.pen 0 (-10000) false]
  box : ∃ i ∈ l, isBox i = true
  sm : ∀ i ∈ l, i.sm
  tx : ∀ i ∈ l, i.tx
theorem F_is_items_ok {l : List Item} (g : Good l) : F_is_items [itsP l] = .ok (.bl true) .non := by
  have h1 := F_check_one l g.ok g.len
  have h2 := F_check_two l g.len
  obtain ⟨m, e⟩ := g.last
  have h3 : gIx (itsP l) (.int (-1)) = some (itP (.pen 0 (-10000) false)) := by rw [e]; exact ix_last _ _
  have h4 : 0 < (l.filter isBox).length := by
    obtain ⟨i, hi, hb⟩ := g.box
    exact List.length_pos_of_mem (List.mem_filter.mpr ⟨hi, hb⟩)
  have h5 : (l.filter isBox).length ≤ sizeLine := szn (by have := List.length_filter_le isBox l; have := g.len; omega)
  refine run_rt (env := [.sh (itsP l), .un]) (ρ := [.sh (itsP l), .un]) ?_
  unfold den_is_items
  have t1 : truth (itsP l) = some true := by rw [e]; cases m <;> rfl
  have S1 : sIf (bOr (bNot (bTruV 0)) (bTru (dLc [1] (iSeq (dVar 0)) (gName 1) T_is_items_1 E_is_items_1))) (sRet (dC (.bl false))) sNx [.sh (itsP l), .un] = .nx [.sh (itsP l), .un] := by
    simp [h1, t1, show truth (.lst []) = some false from rfl, -ap_dLc]
  rw [seq_nx S1]
  have S2 : sIf (bOr (bVal (d2 gNe (d2 gIx (d2 gIx (dVar 0) (dNeg (dC (.int 1)))) (dC (.int 0))) (dC (.str ("penalty" : Str))))) (bVal (d2 gNe (d2 gIx (d2 gIx (dVar 0) (dNeg (dC (.int 1)))) (dC (.int 2))) (dC c_FORCED)))) (sRet (dC (.bl false))) sNx [.sh (itsP l), .un] = .nx [.sh (itsP l), .un] := by
    simp [h3, ix0, kn_pen, isPen, px2, c_FORCED]
  rw [seq_nx S2, ap_sRet]
  have S3 : d2 gGt (dN gLenN (dCons (dLc [1] (iSeq (dVar 0)) (gName 1) T_is_items_2 E_is_items_2) dNil)) (dC (.int 0)) [.sh (itsP l), .un] = .ok (.bl true) [.sh (itsP l), .un] := by
    have h6 : gLenN [itsP (l.filter isBox)] = some (.int ((l.filter isBox).length : Nat)) := by simp [itsP, h5]
    have h7 : (0 : Int) < ((l.filter isBox).length : Nat) := by omega
    generalize (l.filter isBox).length = n at h6 h7
    simp [h2, h6, -ap_dLc]
    omega
  rw [S3]
  rfl
theorem F_check_items_ok {l : List Item} (g : Good l) : F_check_items [itsP l] = .ok .non .non := by
  refine run_nx (env := [.sh (itsP l)]) (ρ := [.sh (itsP l)]) ?_
  simp [den_check_items, F_is_items_ok g, tr_bl]
def wsP (ws : List Nat) : PV := .lst (ws.map fun w : Nat => PV.int (w : Nat))
theorem F_check_paragraph_ok {l : List Item} (g : Good l) {ws : List Nat} (h0 : ws ≠ []) (h1 : ∀ w ∈ ws, 1 ≤ w) (hw : ws.length ≤ 10) : F_check_paragraph [itsP l, wsP ws] = .ok .non .non := by
  have L := dLc_okF (T := T_check_paragraph_1) (E := E_check_paragraph_1) (i := 2) (di := iSeq (dVar 1)) (ρ := [.sh (itsP l), .sh (wsP ws), .un]) (fun w : Nat => PV.int (w : Nat)) (fun w : Nat => PV.int (w : Nat)) (fun _ => false) ws (by simp [wsP]) rfl (by omega)
    (fun c hc => by have := h1 c hc; simp [T_check_paragraph_1, Sl.lock, show ¬ (c : Int) < 1 by omega]) (fun c hc e => nomatch e)
  have e : List.filter (fun _ : Nat => false) ws = [] := by simp
  rw [e] at L
  have L : dLc [2] (iSeq (dVar 1)) (gName 2) T_check_paragraph_1 E_check_paragraph_1 [.sh (itsP l), .sh (wsP ws), .un] = .ok (.lst []) [.sh (itsP l), .sh (wsP ws), .un] := L
  have t1 : truth (wsP ws) = some true := by cases ws with
    | nil => exact absurd rfl h0
    | cons w r => rfl
  have h5 : gLenN [itsP l] = some (.int (l.length : Nat)) := by simp [itsP, show l.length ≤ sizeLine from szn (by have := g.len; omega)]
  have h6 : ¬ (400 : Int) < (l.length : Nat) := by have := g.len; omega
  refine run_nx (env := [.sh (itsP l), .sh (wsP ws), .un]) (ρ := [.sh (itsP l), .sh (wsP ws), .un]) ?_
  generalize l.length = n at h5 h6
  simp [den_check_paragraph, F_check_items_ok g, L, t1, h5, h6, c_MOST_ITEMS, show truth (.lst []) = some false from rfl, -ap_dLc]
theorem cut_one (x : PV) (l : List PV) : cutP (x :: l) (some 1) none = l := by
  unfold cutP HT.sIx
  simp
/-- the items from the first box on -/
def strip : List Item → List Item
  | [] => []
  | i :: l => if isBox i then i :: l else strip l
theorem while_strip (a b c d : Sl) : ∀ (l : List Item) (n : Nat), l.length < n → ∃ s, dWhile (bAnd (bTruV 3) (bVal (d2 gNe (d2 gIx (d2 gIx (dVar 3) (dC (.int 0))) (dC (.int 0))) (dC (.str ("box" : Str)))))) B_line_between_2 n [a, b, c, .sh (itsP l), d] = .nx [a, b, c, .sh (itsP (strip l)), s] ∧ s = d
  | [], n + 1, h => ⟨d, by simp [dWhile, itsP, strip, show truth (.lst []) = some false from rfl], rfl⟩
  | i :: l, n + 1, h => by
    have t1 : truth (itsP (i :: l)) = some true := rfl
    have e1 : gIx (itsP (i :: l)) (.int 0) = some (itP i) := ix_items (i :: l) 0 (by simp)
    cases hb : isBox i with
    | true =>
      refine ⟨d, ?_, rfl⟩
      simp [dWhile, t1, e1, ix0, kn_box, hb, strip]
    | false =>
      obtain ⟨s, h1, h2⟩ := while_strip a b c d l n (by simpa using h)
      refine ⟨s, ?_, h2⟩
      have S : B_line_between_2 [a, b, c, .sh (itsP (i :: l)), d] = .nx [a, b, c, .sh (itsP l), d] := by
        simp [B_line_between_2, itsP]
        exact cut_one _ _
      unfold dWhile
      simp [t1, e1, ix0, kn_box, hb, S, strip, h1]
theorem cut_seg {α : Type} (ps : List α) {s e : Nat} (h1 : s ≤ ps.length) (h2 : e ≤ ps.length) : cutP ps (some (s : Int)) (some (e : Int)) = (ps.drop s).take (e - s) := by
  unfold cutP HT.sIx
  have a1 : ¬ (s : Int) < 0 := by omega
  have a2 : ¬ (e : Int) < 0 := by omega
  simp [a1, a2, Nat.min_eq_left h1, Nat.min_eq_left h2]
def seg (l : List Item) (s e : Nat) : List Item := (l.drop s).take (e - s)
/-- the line from s on (the break before it is s - 1) to the break e -/
def lineOf (l : List Item) (s e : Nat) : Option (List Item) :=
  if (List.range' s (e - s)).any (frc l) then none else if (strip (seg l s e)).isEmpty then none else some (strip (seg l s e))

theorem F_forced_lc (l : List Item) {s e : Nat} (hs : s ≤ e) (he : e ≤ l.length) (hl : l.length ≤ 400) (a x : Sl) : dLc [4] (iR2 (dCons (dAdd (dVar 1) (dC (.int 1))) (dCons (dVar 2) dNil))) (gName 4) T_line_between_1 E_line_between_1 [.sh (itsP l), .sh (.int ((s : Int) - 1)), .sh (.int (e : Int)), .sh (itsP (seg l s e)), .un] = .ok (nP ((List.range' s (e - s)).filter (frc l))) [.sh (itsP l), .sh (.int ((s : Int) - 1)), .sh (.int (e : Int)), .sh (itsP (seg l s e)), .un] :=
  dLc_okF (fun i : Nat => PV.int (i : Nat)) (fun i : Nat => PV.int (i : Nat)) (frc l) (List.range' s (e - s)) (by
      have e1 : ((e : Int) - (s : Int)).toNat = e - s := by omega
      simp [rg2_ok (ρ := [.sh (itsP l), .sh (.int ((s : Int) - 1)), .sh (.int (e : Int)), .sh (itsP (seg l s e)), .un]) (show (-1000000000 : Int) ≤ s by omega) (show (s : Int) ≤ 1000000000 by omega) (show (-1000000000 : Int) ≤ e by omega) (show (e : Int) ≤ 1000000000 by omega), e1, range_from]) rfl (by simp; omega)
    (fun c hc => by
      have h1 : c < l.length := by
        have := List.mem_range'_1.mp hc
        omega
      simp [T_line_between_1, Sl.lock, F_is_forced_ok l c h1, tr_bl]) (fun c hc _ => by simp [E_line_between_1, Sl.lock])
def optP : Option (List Item) → PV
  | none => .non
  | some l => itsP l
theorem F_line_between_ok (l : List Item) {s e : Nat} (hs : s ≤ e) (he : e ≤ l.length) (hl : l.length ≤ 400) : F_line_between [itsP l, .int ((s : Int) - 1), .int (e : Int)] = .ok (optP (lineOf l s e)) .non := by
  have L := F_forced_lc l hs he hl .un .un
  have S1 : sSet 3 (dN gListOf (dCons (dSl gSl (dVar 0) (oSome (dAdd (dVar 1) (dC (.int 1)))) (oSome (dVar 2))) dNil)) [.sh (itsP l), .sh (.int ((s : Int) - 1)), .sh (.int (e : Int)), .un, .un] = .nx [.sh (itsP l), .sh (.int ((s : Int) - 1)), .sh (.int (e : Int)), .sh (itsP (seg l s e)), .un] := by
    have c := cut_seg (l.map itP) (s := s) (e := e) (by simpa using Nat.le_trans hs he) (by simpa using he)
    simp [itsP, c, seg, List.map_take, List.map_drop]
  by_cases hf : (List.range' s (e - s)).any (frc l) = true
  · refine run_rt (env := [.sh (itsP l), .sh (.int ((s : Int) - 1)), .sh (.int (e : Int)), .un, .un]) (ρ := [.sh (itsP l), .sh (.int ((s : Int) - 1)), .sh (.int (e : Int)), .sh (itsP (seg l s e)), .un]) ?_
    unfold den_line_between lineOf
    rw [seq_nx S1, if_pos hf]
    have t1 : truth (nP ((List.range' s (e - s)).filter (frc l))) = some true := by
      obtain ⟨i, h1, h2⟩ := List.any_eq_true.mp hf
      have : i ∈ (List.range' s (e - s)).filter (frc l) := List.mem_filter.mpr ⟨h1, h2⟩
      cases hh : (List.range' s (e - s)).filter (frc l) with
      | nil => rw [hh] at this; cases this
      | cons x r => rfl
    simp [L, t1, optP, -ap_dLc]
  · have t1 : truth (nP ((List.range' s (e - s)).filter (frc l))) = some false := by
      have : (List.range' s (e - s)).filter (frc l) = [] := List.filter_eq_nil_iff.mpr fun i hi hz => hf (List.any_eq_true.mpr ⟨i, hi, hz⟩)
      rw [this]; rfl
    obtain ⟨x, hw, rfl⟩ := while_strip (.sh (itsP l)) (.sh (.int ((s : Int) - 1))) (.sh (.int (e : Int))) .un (seg l s e) ((seg l s e).length + 2) (by omega)
    refine run_rt (env := [.sh (itsP l), .sh (.int ((s : Int) - 1)), .sh (.int (e : Int)), .un, .un]) (ρ := [.sh (itsP l), .sh (.int ((s : Int) - 1)), .sh (.int (e : Int)), .sh (itsP (strip (seg l s e))), .un]) ?_
    unfold den_line_between lineOf
    rw [seq_nx S1, if_neg hf]
    have S2 : sIf (bTru (dLc [4] (iR2 (dCons (dAdd (dVar 1) (dC (.int 1))) (dCons (dVar 2) dNil))) (gName 4) T_line_between_1 E_line_between_1)) (sRet (dC .non)) sNx [.sh (itsP l), .sh (.int ((s : Int) - 1)), .sh (.int (e : Int)), .sh (itsP (seg l s e)), .un] = .nx [.sh (itsP l), .sh (.int ((s : Int) - 1)), .sh (.int (e : Int)), .sh (itsP (seg l s e)), .un] := by
      simp [L, t1, -ap_dLc]
    have S3 : sWhile (muLen 3) (bAnd (bTruV 3) (bVal (d2 gNe (d2 gIx (d2 gIx (dVar 3) (dC (.int 0))) (dC (.int 0))) (dC (.str ("box" : Str)))))) B_line_between_2 [.sh (itsP l), .sh (.int ((s : Int) - 1)), .sh (.int (e : Int)), .sh (itsP (seg l s e)), .un] = .nx [.sh (itsP l), .sh (.int ((s : Int) - 1)), .sh (.int (e : Int)), .sh (itsP (strip (seg l s e))), .un] := by
      have em : muLen 3 [.sh (itsP l), .sh (.int ((s : Int) - 1)), .sh (.int (e : Int)), .sh (itsP (seg l s e)), .un] = (seg l s e).length + 2 := by simp [muLen, itsP]
      unfold sWhile
      rw [em, hw]
    rw [seq_nx S2, seq_nx S3]
    cases hq : strip (seg l s e) with
    | nil => simp [optP, itsP, show truth (.lst []) = some false from rfl]
    | cons y r => simp [optP, itsP, show ∀ p ps, truth (.lst (p :: ps)) = some true from fun _ _ => rfl]
end PL.K70

set_option Elab.async false
set_option linter.all false
set_option maxRecDepth 100000
set_option maxHeartbeats 4000000
namespace PL.K70
open PySem PySem.Spec L2 PL
set_option autoImplicit false
/-! ### the law's breaks -/
def brksN (l : List Item) (i : Nat) : List Nat := (List.range i).filter (brk l)
theorem brksN_succ (l : List Item) (i : Nat) : brksN l (i + 1) = brksN l i ++ if brk l i then [i] else [] := by
  unfold brksN
  rw [List.range_succ, List.filter_append]
  cases h : brk l i <;> simp [h]
theorem brksN_len (l : List Item) (i : Nat) : (brksN l i).length ≤ i := by
  have := List.length_filter_le (brk l) (List.range i)
  simpa [brksN] using this
theorem app_nat {l : List Nat} {i : Nat} (h : l.length ≤ 100000) : gAppend (nP l) [.int (i : Nat)] = some (nP (l ++ [i]), .non) := by
  unfold nP
  rw [ap_app, if_pos (by rw [List.length_map, sizeLine_eq]; omega)]
  simp
theorem isT_nP (l : List Nat) : isT "list" (nP l) = true := rfl
theorem law_breaks_one (l : List Item) (i : Nat) (h : i < l.length) (hl : l.length ≤ 400) (s3 : Sl) :
    B__law_breaks_1 [.sh (itsP l), .ow (nP (brksN l i)), .sh (.int (i : Nat)), s3] = .nx [.sh (itsP l), .ow (nP (brksN l (i + 1))), .sh (.int (i : Nat)), .sh (itP l[i])] := by
  have e := ix_items l i h
  have hb := brksN_succ l i
  have hz : (brksN l i).length ≤ 100000 := by have := brksN_len l i; omega
  have ha := app_nat (i := i) hz
  have ht := isT_nP (brksN l i)
  unfold brk at hb
  rw [List.getElem?_eq_getElem h] at hb
  unfold B__law_breaks_1
  cases hx : l[i] with
  | box w t =>
    rw [hx] at e hb
    simp [e, ix0, kd_pen, kd_glue, isPen, isGlue, hb]
  | pen w c f =>
    rw [hx] at e hb
    by_cases hc : c < 10000
    · simp [e, ix0, kd_pen, kd_glue, isPen, isGlue, px2, hb, hc, ha, ht]
    · simp [e, ix0, kd_pen, kd_glue, isPen, isGlue, px2, hb, hc]
  | glue w a b =>
    rw [hx] at e hb
    by_cases hz : 0 < i
    · have e2 := ix_items l (i - 1) (by omega)
      have e3 : ((i - 1 : Nat) : Int) = (i : Int) - 1 := by omega
      rw [e3] at e2
      rw [List.getElem?_eq_getElem (by omega : i - 1 < l.length)] at hb
      cases hbx : isBox l[i - 1] with
      | true => simp [e, e2, ix0, kd_pen, kd_glue, kd_box, isPen, isGlue, hb, hz, hbx, ha, ht]
      | false => simp [e, e2, ix0, kd_pen, kd_glue, kd_box, isPen, isGlue, hb, hz, hbx]
    · simp [e, ix0, kd_pen, kd_glue, isPen, isGlue, hb, hz]
theorem F__law_breaks_ok (l : List Item) (hl : l.length ≤ 400) : F__law_breaks [itsP l] = .ok (nP (brks l)) .non := by
  obtain ⟨ρ, h1, s2, s3, h2⟩ := dLoop_inv (tgt := gName 2) (body := B__law_breaks_1) (items := rangeP 0 l.length) (ρ0 := [.sh (itsP l), .ow (nP (brksN l 0)), .un, .un])
    (fun i ρ => ∃ s2 s3, ρ = [.sh (itsP l), .ow (nP (brksN l i)), s2, s3])
    (fun i x ρ hx hi => by
      obtain ⟨hil, rfl⟩ := rangeP_get hx
      obtain ⟨s2, s3, rfl⟩ := hi
      rw [Int.zero_add]
      exact ⟨_, _, rfl, .inl (law_breaks_one l i hil hl s3), _, _, rfl⟩) ⟨_, _, rfl⟩
  rw [rangeP_len] at h2
  subst h2
  refine run_rt (env := [.sh (itsP l), .un, .un, .un]) (ρ := [.sh (itsP l), .sh (nP (brks l)), s2, s3]) ?_
  have h3 : sFor (iR1 (dCons (dN gLenN (dCons (dVar 0) dNil)) dNil)) (gName 2) B__law_breaks_1 [.sh (itsP l), .ow (nP (brksN l 0)), .un, .un] = .nx [.sh (itsP l), .ow (nP (brksN l l.length)), s2, s3] := by
    rw [← h1]
    have e : gLenN [itsP l] = some (.int (l.length : Nat)) := by simp [itsP]
    simp [e, rg1_nat (show l.length ≤ 1000000000 by omega)]
  unfold den__law_breaks
  rw [seq_nx (ρ1 := [.sh (itsP l), .ow (nP (brksN l 0)), .un, .un]) (by simp [nP, brksN]), seq_nx h3]
  simp [brks, brksN]
/-! ### the law's line -/
theorem strip_snoc (l : List Item) (x : Item) : strip (l ++ [x]) = if (strip l).isEmpty && !isBox x then [] else strip l ++ [x] := by
  induction l with
  | nil => cases h : isBox x <;> simp [strip, h]
  | cons y l ih =>
    cases h : isBox y with
    | true => simp [strip, h]
    | false => simp [strip, h, ih]
theorem seg_succ (l : List Item) {s e : Nat} (hs : s ≤ e) (h : e < l.length) : seg l s (e + 1) = seg l s e ++ [l[e]] := by
  unfold seg
  have e1 : e + 1 - s = (e - s) + 1 := by omega
  rw [e1, List.take_add_one, List.getElem?_drop]
  have e2 : s + (e - s) = e := by omega
  rw [e2, List.getElem?_eq_getElem h]
  rfl
def frcI : Item → Bool
  | .pen _ c _ => decide (c = -10000)
  | _ => false
theorem frc_get (l : List Item) (i : Nat) (h : i < l.length) : frc l i = frcI l[i] := by
  unfold frc
  rw [List.getElem?_eq_getElem h]
  cases l[i] <;> rfl
theorem app_item {l : List Item} {x : Item} (h : l.length ≤ 100000) : gAppend (itsP l) [itP x] = some (itsP (l ++ [x]), .non) := by
  unfold itsP
  rw [ap_app, if_pos (by rw [List.length_map, sizeLine_eq]; omega)]
  simp
theorem strip_len : ∀ l : List Item, (strip l).length ≤ l.length
  | [] => Nat.le_refl _
  | i :: l => by
    have := strip_len l
    unfold strip
    split
    · exact Nat.le_refl _
    · simp; omega
theorem seg_len (l : List Item) (s e : Nat) : (seg l s e).length ≤ l.length := by
  unfold seg
  rw [List.length_take, List.length_drop]
  omega
theorem law_line_one (l : List Item) {s e : Nat} {a b : PV} {s5 : Sl} (hs : s ≤ e) (h : e < l.length) (hl : l.length ≤ 400) :
    B__law_line_1 [.sh (itsP l), .sh a, .sh b, .ow (itsP (strip (seg l s e))), .sh (.int (e : Nat)), s5] =
      if frc l e then .rt .non [.sh (itsP l), .sh a, .sh b, .ow (itsP (strip (seg l s e))), .sh (.int (e : Nat)), .sh (itP l[e])]
      else .nx [.sh (itsP l), .sh a, .sh b, .ow (itsP (strip (seg l s (e + 1)))), .sh (.int (e : Nat)), .sh (itP l[e])] := by
  have e0 := ix_items l e h
  have hz : (strip (seg l s e)).length ≤ 100000 := by have := strip_len (seg l s e); have := seg_len l s e; omega
  have hn : strip (seg l s (e + 1)) = if (strip (seg l s e)).isEmpty && !isBox l[e] then [] else strip (seg l s e) ++ [l[e]] := by
    rw [seg_succ l hs h, strip_snoc]
  have hlen : gLen (itsP (strip (seg l s e))) = some (.int ((strip (seg l s e)).length : Nat)) := by simp [itsP]
  have ht : isT "list" (itsP (strip (seg l s e))) = true := rfl
  rw [frc_get l e h, hn]
  generalize strip (seg l s e) = m at *
  have ha := app_item (x := l[e]) hz
  unfold B__law_line_1
  generalize hx : l[e] = x at *
  have hbx : (if m.isEmpty && !isBox x then [] else m ++ [x]) = if m.length = 0 ∧ isBox x = false then m else m ++ [x] := by
    cases m with
    | nil => cases isBox x <;> simp
    | cons y m => simp
  rw [hbx]
  by_cases h0 : m.length = 0
  · cases x with
    | box w t => simp [e0, ix0, kd_pen, kd_box, isPen, isBox, frcI, hlen, ha, ht, h0]
    | pen w c f =>
      by_cases hc : c = -10000
      · simp [e0, ix0, kd_pen, kd_box, isPen, isBox, frcI, px2, hlen, ha, ht, h0, hc]
      · simp [e0, ix0, kd_pen, kd_box, isPen, isBox, frcI, px2, hlen, ha, ht, h0, hc]
    | glue w a b => simp [e0, ix0, kd_pen, kd_box, isPen, isBox, frcI, hlen, ha, ht, h0]
  · have h1 : 0 < m.length := by omega
    have h2 : m ≠ [] := by intro z; rw [z] at h0; exact h0 rfl
    cases x with
    | box w t => simp [e0, ix0, kd_pen, kd_box, isPen, isBox, frcI, hlen, ha, ht, h0, h1, h2]
    | pen w c f =>
      by_cases hc : c = -10000
      · simp [e0, ix0, kd_pen, kd_box, isPen, isBox, frcI, px2, hlen, ha, ht, h0, hc, h1, h2]
      · simp [e0, ix0, kd_pen, kd_box, isPen, isBox, frcI, px2, hlen, ha, ht, h0, hc, h1, h2]
    | glue w a b => simp [e0, ix0, kd_pen, kd_box, isPen, isBox, frcI, hlen, ha, ht, h0, h1, h2]
theorem F__law_line_ok (l : List Item) {s e : Nat} (hs : s ≤ e) (he : e ≤ l.length) (hl : l.length ≤ 400) : F__law_line [itsP l, .int ((s : Int) - 1), .int (e : Int)] = .ok (optP (lineOf l s e)) .non := by
  let R : RS → Prop := fun r => if (List.range' s (e - s)).any (frc l) then ∃ ρ, r = .rt .non ρ else ∃ s4 s5, r = .nx [.sh (itsP l), .sh (.int ((s : Int) - 1)), .sh (.int (e : Int)), .ow (itsP (strip (seg l s e))), s4, s5]
  have h1 : R (dLoop (gName 4) B__law_line_1 (rangeP (s : Int) (e - s)) [.sh (itsP l), .sh (.int ((s : Int) - 1)), .sh (.int (e : Int)), .ow (.lst []), .un, .un]) := by
    refine dLoop_or (fun i ρ => (∀ j, s ≤ j → j < s + i → frc l j = false) ∧ ∃ s4 s5, ρ = [.sh (itsP l), .sh (.int ((s : Int) - 1)), .sh (.int (e : Int)), .ow (itsP (strip (seg l s (s + i)))), s4, s5]) R ?_ ?_ ?_
    · rintro i x ρ hx ⟨hno, s4, s5, rfl⟩
      obtain ⟨hi, rfl⟩ := rangeP_get hx
      have hlt : s + i < l.length := by omega
      have one := law_line_one l (s := s) (e := s + i) (a := .int ((s : Int) - 1)) (b := .int (e : Int)) (s5 := s5) (by omega) hlt hl
      have ec : (((s + i : Nat)) : Int) = (s : Int) + (i : Int) := by omega
      rw [ec] at one
      refine ⟨_, rfl, ?_⟩
      cases hf : frc l (s + i) with
      | true =>
        rw [hf] at one
        refine .inr (.inr (.inl ⟨_, _, one, ?_⟩))
        show if _ then _ else _
        rw [if_pos (List.any_eq_true.mpr ⟨s + i, List.mem_range'_1.mpr ⟨by omega, by omega⟩, hf⟩)]
        exact ⟨_, rfl⟩
      | false =>
        rw [hf] at one
        refine .inl ⟨_, .inl one, ?_, _, _, rfl⟩
        intro j hj1 hj2
        by_cases hj : j = s + i
        · rw [hj]; exact hf
        · exact hno j hj1 (by omega)
    · rintro ρ ⟨hno, s4, s5, rfl⟩
      rw [rangeP_len] at hno
      show if _ then _ else _
      rw [if_neg, rangeP_len, show s + (e - s) = e by omega]
      · exact ⟨_, _, rfl⟩
      · intro hz
        obtain ⟨j, hj, hf⟩ := List.any_eq_true.mp hz
        have := List.mem_range'_1.mp hj
        rw [hno j this.1 (by omega)] at hf
        cases hf
    · exact ⟨fun j h1 h2 => by omega, .un, .un, by simp [seg, strip, itsP]⟩
  have h2 : sFor (iR2 (dCons (dAdd (dVar 1) (dC (.int 1))) (dCons (dVar 2) dNil))) (gName 4) B__law_line_1 [.sh (itsP l), .sh (.int ((s : Int) - 1)), .sh (.int (e : Int)), .ow (.lst []), .un, .un] = dLoop (gName 4) B__law_line_1 (rangeP (s : Int) (e - s)) [.sh (itsP l), .sh (.int ((s : Int) - 1)), .sh (.int (e : Int)), .ow (.lst []), .un, .un] := by
    have e1 : ((e : Int) - (s : Int)).toNat = e - s := by omega
    simp [rg2_ok (ρ := [.sh (itsP l), .sh (.int ((s : Int) - 1)), .sh (.int (e : Int)), .ow (.lst []), .un, .un]) (show (-1000000000 : Int) ≤ s by omega) (show (s : Int) ≤ 1000000000 by omega) (show (-1000000000 : Int) ≤ e by omega) (show (e : Int) ≤ 1000000000 by omega), e1]
  have S0 : sSetF 3 (dLst dNil) [.sh (itsP l), .sh (.int ((s : Int) - 1)), .sh (.int (e : Int)), .un, .un, .un] = .nx [.sh (itsP l), .sh (.int ((s : Int) - 1)), .sh (.int (e : Int)), .ow (.lst []), .un, .un] := by simp
  by_cases hf : (List.range' s (e - s)).any (frc l) = true
  · have h1 : if _ then _ else _ := h1
    rw [if_pos hf] at h1
    obtain ⟨ρ, h1⟩ := h1
    refine run_rt (env := [.sh (itsP l), .sh (.int ((s : Int) - 1)), .sh (.int (e : Int)), .un, .un, .un]) (ρ := ρ) ?_
    unfold den__law_line lineOf
    rw [seq_nx S0, if_pos hf, ap_sSeq, h2, h1]
    rfl
  · have h1 : if _ then _ else _ := h1
    rw [if_neg hf] at h1
    obtain ⟨s4, s5, h1⟩ := h1
    rw [← h2] at h1
    have hlen : gLen (itsP (strip (seg l s e))) = some (.int ((strip (seg l s e)).length : Nat)) := by simp [itsP]
    unfold lineOf
    rw [if_neg hf]
    generalize hm : strip (seg l s e) = m at *
    cases m with
    | nil =>
      refine run_rt (env := [.sh (itsP l), .sh (.int ((s : Int) - 1)), .sh (.int (e : Int)), .un, .un, .un]) (ρ := [.sh (itsP l), .sh (.int ((s : Int) - 1)), .sh (.int (e : Int)), .ow (itsP []), s4, s5]) ?_
      unfold den__law_line
      rw [seq_nx S0, seq_nx h1]
      simp [hlen, optP]
    | cons y m =>
      refine run_rt (env := [.sh (itsP l), .sh (.int ((s : Int) - 1)), .sh (.int (e : Int)), .un, .un, .un]) (ρ := [.sh (itsP l), .sh (.int ((s : Int) - 1)), .sh (.int (e : Int)), .sh (itsP (y :: m)), s4, s5]) ?_
      unfold den__law_line
      have hp : (0 : Int) < (((y :: m).length : Nat) : Int) := by simp only [List.length_cons]; omega
      rw [seq_nx S0, seq_nx h1]
      generalize (((y :: m).length : Nat) : Int) = n at *
      simp [hlen, optP, hp]
end PL.K70

set_option Elab.async false
set_option linter.all false
set_option maxRecDepth 100000
set_option maxHeartbeats 4000000
namespace PL.K70
open PySem PySem.Spec L2 PL
set_option autoImplicit false
/-! ### sums -/
def wd : Item → Nat
  | .box w _ => w
  | .glue w _ _ => w
  | .pen w _ _ => w
def stI : Item → Nat
  | .glue _ a _ => a
  | _ => 0
def shI : Item → Nat
  | .glue _ _ b => b
  | _ => 0
theorem px1 (i : Item) : gIx (itP i) (.int 1) = some (.int (wd i : Nat)) := by cases i <;> rfl
theorem px2g (i : Item) (h : isGlue i = true) : gIx (itP i) (.int 2) = some (.int (stI i : Nat)) := by cases i <;> first | rfl | cases h
theorem px3g (i : Item) (h : isGlue i = true) : gIx (itP i) (.int 3) = some (.int (shI i : Nat)) := by cases i <;> first | rfl | cases h
def natS (m : List Item) : Int := ((m.filter fun i => !isPen i).map fun i => (wd i : Int)).sum
def extW (l : List Item) (e : Nat) : Int := match l[e]? with
  | some (.pen w _ _) => (w : Int)
  | _ => 0
def strS (m : List Item) : Int := ((m.filter isGlue).map fun i => (stI i : Int)).sum
def shrS (m : List Item) : Int := ((m.filter isGlue).map fun i => (shI i : Int)).sum

theorem F_sums_of_ok (l m : List Item) {e : Nat} (he : e < l.length) (hm : m.length ≤ 400) : F_sums_of [itsP l, itsP m, .int (e : Int)] = .ok (.tup [.int (natS m + extW l e), .int (strS m), .int (shrS m)]) .non := by
  have e0 := ix_items l e he
  have L1 : dLc [5] (iSeq (dVar 1)) (gName 5) T_sums_of_1 E_sums_of_1 [.sh (itsP l), .sh (itsP m), .sh (.int (e : Int)), .un, .un, .un] = .ok (.lst ((m.filter fun i => !isPen i).map fun i => .int (wd i : Int))) [.sh (itsP l), .sh (itsP m), .sh (.int (e : Int)), .un, .un, .un] :=
    dLc_okF itP (fun i => .int (wd i : Int)) (fun i => !isPen i) m (by simp [itsP]) rfl (by omega)
      (fun c _ => by simp [T_sums_of_1, Sl.lock, ix0, kn_pen]) (fun c _ _ => by simp [E_sums_of_1, Sl.lock, px1])
  have S1 : sSet 3 (dN gSumN (dCons (dLc [5] (iSeq (dVar 1)) (gName 5) T_sums_of_1 E_sums_of_1) dNil)) [.sh (itsP l), .sh (itsP m), .sh (.int (e : Int)), .un, .un, .un] = .nx [.sh (itsP l), .sh (itsP m), .sh (.int (e : Int)), .sh (.int (natS m)), .un, .un] := by
    simp [L1, sum_mapF, natS, -ap_dLc]
  have S2 : sIf (bVal (d2 gEq (d2 gIx (d2 gIx (dVar 0) (dVar 2)) (dC (.int 0))) (dC (.str ("penalty" : Str))))) (sAug 3 gAugAdd (d2 gIx (d2 gIx (dVar 0) (dVar 2)) (dC (.int 1)))) sNx [.sh (itsP l), .sh (itsP m), .sh (.int (e : Int)), .sh (.int (natS m)), .un, .un] = .nx [.sh (itsP l), .sh (itsP m), .sh (.int (e : Int)), .sh (.int (natS m + extW l e)), .un, .un] := by
    unfold extW
    rw [List.getElem?_eq_getElem he]
    cases hx : l[e] with
    | box w t => rw [hx] at e0; simp [e0, ix0, kd_pen, isPen]
    | glue w a b => rw [hx] at e0; simp [e0, ix0, kd_pen, isPen]
    | pen w c f => rw [hx] at e0; simp [e0, ix0, kd_pen, isPen, px1, wd]
  generalize natS m + extW l e = N at S2
  have L2 : dLc [5] (iSeq (dVar 1)) (gName 5) T_sums_of_2 E_sums_of_2 [.sh (itsP l), .sh (itsP m), .sh (.int (e : Int)), .sh (.int N), .un, .un] = .ok (itsP (m.filter isGlue)) [.sh (itsP l), .sh (itsP m), .sh (.int (e : Int)), .sh (.int N), .un, .un] :=
    dLc_okF itP itP isGlue m (by simp [itsP]) rfl (by omega)
      (fun c _ => by simp [T_sums_of_2, Sl.lock, ix0, kd_glue]) (fun c _ _ => by simp [E_sums_of_2, Sl.lock])
  have hg : (m.filter isGlue).length ≤ 1000000 := by have := List.length_filter_le isGlue m; omega
  have hG : ∀ c ∈ m.filter isGlue, isGlue c = true := fun c hc => (List.mem_filter.mp hc).2
  have L3 : dLc [5] (iSeq (dVar 4)) (gName 5) bYes E_sums_of_3 [.sh (itsP l), .sh (itsP m), .sh (.int (e : Int)), .sh (.int N), .sh (itsP (m.filter isGlue)), .un] = .ok (.lst ((m.filter isGlue).map fun i => .int (shI i : Int))) [.sh (itsP l), .sh (itsP m), .sh (.int (e : Int)), .sh (.int N), .sh (itsP (m.filter isGlue)), .un] :=
    dLc_ok itP (fun i => .int (shI i : Int)) (m.filter isGlue) (by simp [itsP]) rfl hg
      (fun c hc => by simp [E_sums_of_3, Sl.lock, px3g c (hG c hc)])
  have L4 : dLc [5] (iSeq (dVar 4)) (gName 5) bYes E_sums_of_4 [.sh (itsP l), .sh (itsP m), .sh (.int (e : Int)), .sh (.int N), .sh (itsP (m.filter isGlue)), .un] = .ok (.lst ((m.filter isGlue).map fun i => .int (stI i : Int))) [.sh (itsP l), .sh (itsP m), .sh (.int (e : Int)), .sh (.int N), .sh (itsP (m.filter isGlue)), .un] :=
    dLc_ok itP (fun i => .int (stI i : Int)) (m.filter isGlue) (by simp [itsP]) rfl hg
      (fun c hc => by simp [E_sums_of_4, Sl.lock, px2g c (hG c hc)])
  refine run_rt (env := [.sh (itsP l), .sh (itsP m), .sh (.int (e : Int)), .un, .un, .un]) (ρ := [.sh (itsP l), .sh (itsP m), .sh (.int (e : Int)), .sh (.int N), .sh (itsP (m.filter isGlue)), .un]) ?_
  unfold den_sums_of
  rw [seq_nx S1, seq_nx S2, seq_nx (ρ1 := [.sh (itsP l), .sh (itsP m), .sh (.int (e : Int)), .sh (.int N), .sh (itsP (m.filter isGlue)), .un]) (by simp [L2, -ap_dLc])]
  simp [L3, L4, sum_mapF, strS, shrS, szn (show 3 ≤ 1000000 by omega), -ap_dLc]
theorem F__law_sums_ok (l m : List Item) {e : Nat} (he : e < l.length) (hm : m.length ≤ 400) : F__law_sums [itsP l, itsP m, .int (e : Int)] = .ok (.tup [.int (natS m + extW l e), .int (strS m), .int (shrS m)]) .non := by
  have e0 := ix_items l e he
  have L1 : dLc [5] (iSeq (dVar 1)) (gName 5) T__law_sums_1 E__law_sums_1 [.sh (itsP l), .sh (itsP m), .sh (.int (e : Int)), .un, .un, .un] = .ok (.lst ((m.filter fun i => !isPen i).map fun i => .int (wd i : Int))) [.sh (itsP l), .sh (itsP m), .sh (.int (e : Int)), .un, .un, .un] :=
    dLc_okF itP (fun i => .int (wd i : Int)) (fun i => !isPen i) m (by simp [itsP]) rfl (by omega)
      (fun c _ => by simp [T__law_sums_1, Sl.lock, ix0, kn_pen]) (fun c _ _ => by simp [E__law_sums_1, Sl.lock, px1])
  have S1 : sSet 3 (dN gSumN (dCons (dLc [5] (iSeq (dVar 1)) (gName 5) T__law_sums_1 E__law_sums_1) dNil)) [.sh (itsP l), .sh (itsP m), .sh (.int (e : Int)), .un, .un, .un] = .nx [.sh (itsP l), .sh (itsP m), .sh (.int (e : Int)), .sh (.int (natS m)), .un, .un] := by
    simp [L1, sum_mapF, natS, -ap_dLc]
  have S2 : sIf (bVal (d2 gEq (d2 gIx (d2 gIx (dVar 0) (dVar 2)) (dC (.int 0))) (dC (.str ("penalty" : Str))))) (sSet 3 (dAdd (dVar 3) (d2 gIx (d2 gIx (dVar 0) (dVar 2)) (dC (.int 1))))) sNx [.sh (itsP l), .sh (itsP m), .sh (.int (e : Int)), .sh (.int (natS m)), .un, .un] = .nx [.sh (itsP l), .sh (itsP m), .sh (.int (e : Int)), .sh (.int (natS m + extW l e)), .un, .un] := by
    unfold extW
    rw [List.getElem?_eq_getElem he]
    cases hx : l[e] with
    | box w t => rw [hx] at e0; simp [e0, ix0, kd_pen, isPen]
    | glue w a b => rw [hx] at e0; simp [e0, ix0, kd_pen, isPen]
    | pen w c f => rw [hx] at e0; simp [e0, ix0, kd_pen, isPen, px1, wd]
  generalize natS m + extW l e = N at S2
  have L2 : dLc [5] (iSeq (dVar 1)) (gName 5) T__law_sums_2 E__law_sums_2 [.sh (itsP l), .sh (itsP m), .sh (.int (e : Int)), .sh (.int N), .un, .un] = .ok (.lst ((m.filter isGlue).map fun i => .int (stI i : Int))) [.sh (itsP l), .sh (itsP m), .sh (.int (e : Int)), .sh (.int N), .un, .un] :=
    dLc_okF itP (fun i => .int (stI i : Int)) isGlue m (by simp [itsP]) rfl (by omega)
      (fun c _ => by simp [T__law_sums_2, Sl.lock, ix0, kd_glue]) (fun c _ hc => by simp [E__law_sums_2, Sl.lock, px2g c hc])
  have L3 : dLc [5] (iSeq (dVar 1)) (gName 5) T__law_sums_3 E__law_sums_3 [.sh (itsP l), .sh (itsP m), .sh (.int (e : Int)), .sh (.int N), .sh (.int (strS m)), .un] = .ok (.lst ((m.filter isGlue).map fun i => .int (shI i : Int))) [.sh (itsP l), .sh (itsP m), .sh (.int (e : Int)), .sh (.int N), .sh (.int (strS m)), .un] :=
    dLc_okF itP (fun i => .int (shI i : Int)) isGlue m (by simp [itsP]) rfl (by omega)
      (fun c _ => by simp [T__law_sums_3, Sl.lock, ix0, kd_glue]) (fun c _ hc => by simp [E__law_sums_3, Sl.lock, px3g c hc])
  refine run_rt (env := [.sh (itsP l), .sh (itsP m), .sh (.int (e : Int)), .un, .un, .un]) (ρ := [.sh (itsP l), .sh (itsP m), .sh (.int (e : Int)), .sh (.int N), .sh (.int (strS m)), .un]) ?_
  unfold den__law_sums
  rw [seq_nx S1, seq_nx S2, seq_nx (ρ1 := [.sh (itsP l), .sh (itsP m), .sh (.int (e : Int)), .sh (.int N), .sh (.int (strS m)), .un]) (by simp [L2, sum_mapF, strS, -ap_dLc])]
  simp [L3, sum_mapF, shrS, szn (show 3 ≤ 1000000 by omega), -ap_dLc]
/-! ### badness -/
def optI : Option Int → PV
  | none => .non
  | some i => .int i
def bad (n st sk w : Int) : Option Int :=
  if w - n = 0 then some 0 else if 0 < w - n then (if st = 0 then some 10000 else some (if 100 * (w - n) * (w - n) * (w - n) / (st * st * st) < 10000 then 100 * (w - n) * (w - n) * (w - n) / (st * st * st) else 10000))
  else if sk < -(w - n) then none else some (100 * -(w - n) * (w - n) * (w - n) / (sk * sk * sk))

theorem cube_pos {a : Int} (h : 0 < a) (h2 : a ≤ 100000) : 0 < a * a * a ∧ a * a * a ≤ 1000000000000000 := by
  have h3 : a * a ≤ 10000000000 := Int.le_trans (Int.mul_le_mul h2 h2 (by omega) (by omega)) (by omega)
  have h4 : 0 < a * a := Int.mul_pos h h
  exact ⟨Int.mul_pos h4 h, Int.le_trans (Int.mul_le_mul h3 h2 (by omega) (by omega)) (by omega)⟩
section
variable {n st sk w : Int}
theorem F_badness_ok (h1 : 0 ≤ n) (h2 : n ≤ 100000) (h3 : 0 ≤ st) (h4 : st ≤ 100000) (h5 : 0 ≤ sk) (h6 : sk ≤ 100000) (h7 : 0 ≤ w) (h8 : w ≤ 100000) :
    F_badness [.int n, .int st, .int sk, .int w] = .ok (optI (bad n st sk w)) .non := by
  have m1 : smallI (w - n) = true := smI (by omega) (by omega)
  have m2 : smallI st = true := smI (by omega) (by omega)
  have m3 : smallI sk = true := smI (by omega) (by omega)
  have m4 : smallI (-(w - n)) = true := smI (by omega) (by omega)
  unfold bad
  refine run_rt (env := [.sh (.int n), .sh (.int st), .sh (.int sk), .sh (.int w), .un]) (ρ := [.sh (.int n), .sh (.int st), .sh (.int sk), .sh (.int w), .sh (.int (w - n))]) ?_
  unfold den_badness
  rw [seq_nx (ρ1 := [.sh (.int n), .sh (.int st), .sh (.int sk), .sh (.int w), .sh (.int (w - n))]) (by simp)]
  generalize w - n = g at *
  by_cases g0 : g = 0
  · simp [g0, optI]
  · by_cases g1 : 0 < g
    · by_cases s0 : st = 0
      · simp [g0, g1, s0, optI, c_WORST]
      · obtain ⟨c1, c2⟩ := cube_pos (a := st) (by omega) h4
        have c3 := lg2 (by omega) c1
        simp [g0, g1, s0, optI, c_WORST, m1, m2, c1, c3]
    · by_cases k0 : sk < -g
      · simp [g0, g1, k0, optI]
      · obtain ⟨c1, c2⟩ := cube_pos (a := sk) (by omega) h6
        have c3 := lg2 (by omega) c1
        simp [g0, g1, k0, optI, m1, m3, m4, c1, c3]
theorem F__law_badness_ok (h1 : 0 ≤ n) (h2 : n ≤ 100000) (h3 : 0 ≤ st) (h4 : st ≤ 100000) (h5 : 0 ≤ sk) (h6 : sk ≤ 100000) (h7 : 0 ≤ w) (h8 : w ≤ 100000) :
    F__law_badness [.int n, .int st, .int sk, .int w] = .ok (optI (bad n st sk w)) .non := by
  have m1 : smallI (w - n) = true := smI (by omega) (by omega)
  have m2 : smallI st = true := smI (by omega) (by omega)
  have m3 : smallI sk = true := smI (by omega) (by omega)
  have m4 : smallI (-(w - n)) = true := smI (by omega) (by omega)
  unfold bad
  refine run_rt (env := [.sh (.int n), .sh (.int st), .sh (.int sk), .sh (.int w), .un]) (ρ := [.sh (.int n), .sh (.int st), .sh (.int sk), .sh (.int w), .sh (.int (w - n))]) ?_
  unfold den__law_badness
  rw [seq_nx (ρ1 := [.sh (.int n), .sh (.int st), .sh (.int sk), .sh (.int w), .sh (.int (w - n))]) (by simp)]
  generalize w - n = g at *
  by_cases g0 : g = 0
  · simp [g0, optI]
  · by_cases g1 : 0 < g
    · by_cases s0 : st = 0
      · simp [g0, g1, s0, optI]
      · obtain ⟨c1, c2⟩ := cube_pos (a := st) (by omega) h4
        have c3 := lg2 (by omega) c1
        simp [g0, g1, s0, optI, m1, m2, c1, c3]
    · by_cases k0 : sk < -g
      · simp [g0, g1, k0, optI]
      · obtain ⟨c1, c2⟩ := cube_pos (a := sk) (by omega) h6
        have c3 := lg2 (by omega) c1
        simp [g0, g1, k0, optI, m1, m3, m4, c1, c3]
theorem bad_bd {b : Int} (h1 : 0 ≤ n) (h2 : n ≤ 100000) (h3 : 0 ≤ st) (h4 : st ≤ 100000) (h5 : 0 ≤ sk) (h6 : sk ≤ 100000) (h7 : 0 ≤ w) (h8 : w ≤ 100000) (e : bad n st sk w = some b) : 0 ≤ b ∧ b ≤ 100000000000000000 := by
  unfold bad at e
  generalize hg : w - n = g at *
  by_cases g0 : g = 0
  · rw [if_pos g0] at e; cases e; omega
  · rw [if_neg g0] at e
    by_cases g1 : 0 < g
    · rw [if_pos g1] at e
      by_cases s0 : st = 0
      · rw [if_pos s0] at e; cases e; omega
      · rw [if_neg s0] at e
        obtain ⟨c1, c2⟩ := cube_pos (a := st) (by omega) h4
        obtain ⟨c3, c4⟩ := cube_pos (a := g) g1 (by omega)
        have c5 : 100 * g * g * g = 100 * (g * g * g) := by simp only [Int.mul_assoc]
        rw [c5] at e
        have c6 : 0 ≤ 100 * (g * g * g) / (st * st * st) := Int.ediv_nonneg (by omega) (by omega)
        cases e
        split <;> omega
    · rw [if_neg g1] at e
      by_cases k0 : sk < -g
      · rw [if_pos k0] at e; cases e
      · rw [if_neg k0] at e
        obtain ⟨c1, c2⟩ := cube_pos (a := sk) (by omega) h6
        obtain ⟨c3, c4⟩ := cube_pos (a := -g) (by omega) (by omega)
        have c5 : 100 * -g * g * g = 100 * (-g * -g * -g) := by
          rw [Int.mul_assoc (100 * -g), Int.mul_assoc 100, Int.mul_assoc (-g) (-g), Int.neg_mul_neg]
        rw [c5] at e
        have c6 : 0 ≤ 100 * (-g * -g * -g) / (sk * sk * sk) := Int.ediv_nonneg (by omega) (by omega)
        have c7 : 100 * (-g * -g * -g) / (sk * sk * sk) ≤ 100 * (-g * -g * -g) := Int.ediv_le_self _ (by omega)
        cases e
        omega
end
end PL.K70

set_option Elab.async false
set_option linter.all false
set_option maxRecDepth 100000
set_option maxHeartbeats 4000000
namespace PL.K70
open PySem PySem.Spec L2 PL
set_option autoImplicit false
/-! ### bounds of sums -/

theorem mem_strip {i : Item} : ∀ {l : List Item}, i ∈ strip l → i ∈ l
  | [], h => h
  | x :: l, h => by
    unfold strip at h
    split at h
    · exact h
    · exact List.mem_cons_of_mem _ (mem_strip h)
theorem mem_seg {i : Item} {l : List Item} {s e : Nat} (h : i ∈ seg l s e) : i ∈ l := List.mem_of_mem_drop (List.mem_of_mem_take h)
/-- a line of small items -/
structure Ln (m : List Item) : Prop where
  ok : ∀ i ∈ m, i.ok
  sm : ∀ i ∈ m, i.sm
  len : m.length ≤ 400
theorem lineOf_Ln {l : List Item} (g : Good l) {s e : Nat} {m : List Item} (h : lineOf l s e = some m) : Ln m := by
  have e : m = strip (seg l s e) := by
    unfold lineOf at h
    split at h
    · cases h
    · split at h
      · cases h
      · cases h; rfl
  subst e
  refine ⟨fun i hi => g.ok i (mem_seg (mem_strip hi)), fun i hi => g.sm i (mem_seg (mem_strip hi)), ?_⟩
  have h1 := strip_len (seg l s e)
  have h2 := seg_len l s e
  have := g.len
  omega
section
variable {m : List Item}
theorem nat_bd (h : Ln m) : 0 ≤ natS m ∧ natS m ≤ 40000 := by
  have hl := List.length_filter_le (fun i => !isPen i) m
  have h1 := sum_bd (fun i => (wd i : Int)) 100 (m.filter fun i => !isPen i) fun i hi => by
    have := h.sm i (List.mem_filter.mp hi).1
    cases i with
    | box w t => have : w ≤ 100 := this; simp only [wd]; omega
    | glue w a b => have : w ≤ 100 ∧ a ≤ 100 ∧ b ≤ 100 := this; simp only [wd]; omega
    | pen w c f => have : w ≤ 100 := this; simp only [wd]; omega
  have := h.len
  unfold natS
  omega
theorem str_bd (h : Ln m) : 0 ≤ strS m ∧ strS m ≤ 40000 := by
  have hl := List.length_filter_le isGlue m
  have h1 := sum_bd (fun i => (stI i : Int)) 100 (m.filter isGlue) fun i hi => by
    have := h.sm i (List.mem_filter.mp hi).1
    cases i with
    | box w t => simp only [stI]; omega
    | glue w a b => have : w ≤ 100 ∧ a ≤ 100 ∧ b ≤ 100 := this; simp only [stI]; omega
    | pen w c f => simp only [stI]; omega
  have := h.len
  unfold strS
  omega
theorem shr_bd (h : Ln m) : 0 ≤ shrS m ∧ shrS m ≤ 40000 := by
  have hl := List.length_filter_le isGlue m
  have h1 := sum_bd (fun i => (shI i : Int)) 100 (m.filter isGlue) fun i hi => by
    have := h.sm i (List.mem_filter.mp hi).1
    cases i with
    | box w t => simp only [shI]; omega
    | glue w a b => have : w ≤ 100 ∧ a ≤ 100 ∧ b ≤ 100 := this; simp only [shI]; omega
    | pen w c f => simp only [shI]; omega
  have := h.len
  unfold shrS
  omega
theorem ext_bd {l : List Item} (g : Good l) (e : Nat) : 0 ≤ extW l e ∧ extW l e ≤ 100 := by
  unfold extW
  cases h : l[e]? with
  | none => simp
  | some i =>
    have := g.sm i (List.mem_of_getElem? h)
    cases i with
    | box w t => simp
    | glue w a b => simp
    | pen w c f => have : w ≤ 100 := this; simp; omega
end
/-! ### demerits -/
def flg (l : List Item) (i : Nat) : Bool := match l[i]? with
  | some (.pen _ _ f) => f
  | _ => false
def flagS (l : List Item) (s : Nat) : Bool := decide (1 ≤ s) && flg l (s - 1)
theorem px3p (w : Nat) (c : Int) (f : Bool) : gIx (itP (.pen w c f)) (.int 3) = some (.bl f) := rfl
theorem F_has_flag_ok (l : List Item) {s : Nat} (h : s ≤ l.length) : F_has_flag [itsP l, .int ((s : Int) - 1)] = .ok (.bl (flagS l s)) .non := by
  refine run_rt (env := [.sh (itsP l), .sh (.int ((s : Int) - 1))]) (ρ := [.sh (itsP l), .sh (.int ((s : Int) - 1))]) ?_
  unfold den_has_flag flagS flg
  by_cases hz : 1 ≤ s
  · have e := ix_items l (s - 1) (by omega)
    rw [show ((s - 1 : Nat) : Int) = (s : Int) - 1 by omega] at e
    have h0 : (0 : Int) ≤ (s : Int) - 1 := by omega
    rw [List.getElem?_eq_getElem (show s - 1 < l.length by omega)]
    generalize (s : Int) - 1 = a at *
    cases hx : l[s - 1] with
    | box w t => rw [hx] at e; simp [e, h0, hz, ix0, kd_pen, isPen, tr_bl]
    | glue w p b => rw [hx] at e; simp [e, h0, hz, ix0, kd_pen, isPen, tr_bl]
    | pen w c f => rw [hx] at e; simp [e, h0, hz, ix0, kd_pen, isPen, tr_bl, px3p]
  · have h0 : ¬ (0 : Int) ≤ (s : Int) - 1 := by omega
    generalize (s : Int) - 1 = a at *
    simp [hz, h0, tr_bl]
def adjI (fl1 : Bool) : Item → Int
  | .pen _ c f => (if 0 ≤ c then c * c else if -10000 < c then -(c * c) else 0) + (if fl1 && f then 3000 else 0)
  | _ => 0
def flgI : Item → Bool
  | .pen _ _ f => f
  | _ => false
def adj (l : List Item) (s e : Nat) : Int := match l[e]? with
  | some x => adjI (flagS l s) x
  | none => 0
def dem (l : List Item) (s e : Nat) (w : Int) : Option Int := match lineOf l s e with
  | none => none
  | some m => match bad (natS m + extW l e) (strS m) (shrS m) w with
    | none => none
    | some b => some ((1 + b) * (1 + b) + adj l s e)
theorem isN_its (n : Bool) (m : List Item) : gIsN n (itsP m) .non = some (.bl n) := by cases n <;> rfl

theorem F_demerits_ok {l : List Item} (g : Good l) {s e : Nat} {w : Int} (hs : s ≤ e) (he : e < l.length) (w0 : 0 ≤ w) (w1 : w ≤ 100000) :
    F_demerits_of [itsP l, .int ((s : Int) - 1), .int (e : Int), .int w] = .ok (optI (dem l s e w)) .non := by
  have hL := F_line_between_ok l hs (by omega) g.len
  have hF1 := F_has_flag_ok l (s := s) (by omega)
  have hF2 := F_has_flag_ok l (s := e + 1) (by omega)
  have ee : (((e + 1 : Nat) : Int) - 1) = (e : Int) := by omega
  rw [ee] at hF2
  have hf2 : flagS l (e + 1) = flg l e := by simp [flagS]
  rw [hf2] at hF2
  have e0 := ix_items l e he
  refine run_ex (env := [.sh (itsP l), .sh (.int ((s : Int) - 1)), .sh (.int (e : Int)), .sh (.int w), .un, .un, .un, .un, .un, .un, .un]) ?_
  unfold den_demerits_of
  have hd : dem l s e w = match lineOf l s e with
    | none => none
    | some m => match bad (natS m + extW l e) (strS m) (shrS m) w with
      | none => none
      | some b => some ((1 + b) * (1 + b) + adjI (flagS l s) l[e]) := by unfold dem adj; rw [List.getElem?_eq_getElem he]
  have hfg : flg l e = flgI l[e] := by unfold flg; rw [List.getElem?_eq_getElem he]; cases l[e] <;> rfl
  rw [hfg] at hF2
  cases hm : lineOf l s e with
  | none =>
    rw [hm] at hd hL
    rw [hd]
    exact ⟨_, by simp [hL, optP, optI, isN_non]; rfl⟩
  | some m =>
    rw [hm] at hd hL
    have ln := lineOf_Ln g hm
    have hS := F_sums_of_ok l m he ln.len
    have b1 := nat_bd ln
    have b2 := str_bd ln
    have b3 := shr_bd ln
    have b4 := ext_bd g e
    have hB := F_badness_ok (n := natS m + extW l e) (st := strS m) (sk := shrS m) (w := w) (by omega) (by omega) (by omega) (by omega) (by omega) (by omega) w0 w1
    have hbd := fun b => bad_bd (b := b) (n := natS m + extW l e) (st := strS m) (sk := shrS m) (w := w) (by omega) (by omega) (by omega) (by omega) (by omega) (by omega) w0 w1
    have hpen : ∀ w' c f, l[e] = .pen w' c f → -10000 ≤ c ∧ c ≤ 10000 := fun w' c f hx => by have := g.ok l[e] (List.getElem_mem he); rw [hx] at this; exact this
    simp only [] at hd
    generalize dem l s e w = D at *
    generalize natS m + extW l e = N at *
    generalize strS m = T at *
    generalize shrS m = K at *
    generalize (s : Int) - 1 = a at *
    generalize (e : Int) = z at *
    generalize flagS l s = fl1 at *
    generalize l[e] = x at *
    cases hb : bad N T K w with
    | none => rw [hb] at hB hd; subst hd; exact ⟨_, by simp [hL, optP, isN_its, hS, hB, optI, isN_non]; rfl⟩
    | some b =>
      rw [hb] at hB hd
      subst hd
      obtain ⟨bb1, bb2⟩ := hbd b hb
      have sm1 : smallI (1 + b) = true := smI (by omega) (by omega)
      have key : ∃ ρ, (sSeq (sIf (bVal (d2 gEq (d2 gIx (d2 gIx (dVar 0) (dVar 2)) (dC (.int 0))) (dC (.str ("penalty" : Str))))) (sSeq (sSet 10 (d2 gIx (d2 gIx (dVar 0) (dVar 2)) (dC (.int 2))))
    (sIf (bVal (d2 gGe (dVar 10) (dC (.int 0)))) (sAug 9 gAugAdd (dMul (dVar 10) (dVar 10))) (sIf (bVal (d2 gGt (dVar 10) (dC c_FORCED))) (sAug 9 gSub (dMul (dVar 10) (dVar 10))) sNx))) sNx)
    (sSeq (sIf (bAnd (bTru (dCall F_has_flag (dCons (dVar 0) (dCons (dVar 1) dNil)))) (bTru (dCall F_has_flag (dCons (dVar 0) (dCons (dVar 2) dNil))))) (sAug 9 gAugAdd (dC c_DOUBLE)) sNx)
    (sRet (dVar 9)))) [.sh (itsP l), .sh (.int a), .sh (.int z), .sh (.int w), .sh (itsP m), .sh (.int N), .sh (.int T), .sh (.int K), .sh (.int b), .sh (.int ((1 + b) * (1 + b))), .un] = .rt (.int ((1 + b) * (1 + b) + adjI fl1 x)) ρ := by
        generalize (1 + b) * (1 + b) = Q
        cases x with
        | box w' t => exact ⟨_, by simp [e0, ix0, kd_pen, isPen, hF1, hF2, tr_bl, adjI, flgI]; cases fl1 <;> rfl⟩
        | glue w' p' b' => exact ⟨_, by simp [e0, ix0, kd_pen, isPen, hF1, hF2, tr_bl, adjI, flgI]; cases fl1 <;> rfl⟩
        | pen w' c f =>
          obtain ⟨p1, p2⟩ := hpen w' c f rfl
          have sc : smallI c = true := smI (by omega) (by omega)
          by_cases c0 : 0 ≤ c
          · cases fl1 <;> cases f <;> exact ⟨_, by simp [e0, ix0, kd_pen, isPen, hF1, hF2, tr_bl, adjI, flgI, px2, c0, sc, c_DOUBLE, Int.add_assoc]; rfl⟩
          · by_cases c1 : -10000 < c
            · cases fl1 <;> cases f <;> exact ⟨_, by simp [e0, ix0, kd_pen, isPen, hF1, hF2, tr_bl, adjI, flgI, px2, c0, c1, sc, c_DOUBLE, c_FORCED, Int.add_assoc, Int.sub_eq_add_neg]; rfl⟩
            · cases fl1 <;> cases f <;> exact ⟨_, by simp [e0, ix0, kd_pen, isPen, hF1, hF2, tr_bl, adjI, flgI, px2, c0, c1, sc, c_DOUBLE, c_FORCED, Int.add_assoc]; rfl⟩
      obtain ⟨ρ, key⟩ := key
      refine ⟨ρ, ?_⟩
      rw [seq_nx (ρ1 := [.sh (itsP l), .sh (.int a), .sh (.int z), .sh (.int w), .sh (itsP m), .un, .un, .un, .un, .un, .un]) (by simp [hL, optP]),
        seq_nx (ρ1 := [.sh (itsP l), .sh (.int a), .sh (.int z), .sh (.int w), .sh (itsP m), .un, .un, .un, .un, .un, .un]) (by simp [isN_its]),
        seq_nx (ρ1 := [.sh (itsP l), .sh (.int a), .sh (.int z), .sh (.int w), .sh (itsP m), .sh (.int N), .sh (.int T), .sh (.int K), .un, .un, .un]) (by simp [hS]),
        seq_nx (ρ1 := [.sh (itsP l), .sh (.int a), .sh (.int z), .sh (.int w), .sh (itsP m), .sh (.int N), .sh (.int T), .sh (.int K), .sh (.int b), .un, .un]) (by simp [hB, optI]),
        seq_nx (ρ1 := [.sh (itsP l), .sh (.int a), .sh (.int z), .sh (.int w), .sh (itsP m), .sh (.int N), .sh (.int T), .sh (.int K), .sh (.int b), .un, .un]) (by simp [isN_int]),
        seq_nx (ρ1 := [.sh (itsP l), .sh (.int a), .sh (.int z), .sh (.int w), .sh (itsP m), .sh (.int N), .sh (.int T), .sh (.int K), .sh (.int b), .sh (.int ((1 + b) * (1 + b))), .un]) (by simp [sm1]), key]
      rfl
end PL.K70

set_option Elab.async false
set_option linter.all false
set_option maxRecDepth 100000
set_option maxHeartbeats 4000000
namespace PL.K70
open PySem PySem.Spec L2 PL
set_option autoImplicit false
/-! ### the law's demerits -/
theorem law_flag (l : List Item) {s : Nat} (h : s ≤ l.length) (z w m N T K b q c : PV) {e : PV} {f : Bool} (hx : ∃ x, gIx (itsP l) e = some x ∧ gIx x (.int 3) = some (.bl f)) :
    (bAnd (bVal (d2 gGe (dVar 1) (dC (.int 0)))) (bAnd (bVal (d2 gEq (d2 gIx (d2 gIx (dVar 0) (dVar 1)) (dC (.int 0))) (dC (.str ("penalty" : Str))))) (bAnd (bTru (d2 gIx (d2 gIx (dVar 0) (dVar 1)) (dC (.int 3)))) (bTru (d2 gIx (d2 gIx (dVar 0) (dVar 2)) (dC (.int 3)))))))
      [.sh (itsP l), .sh (.int ((s : Int) - 1)), .sh e, .sh w, .sh m, .sh N, .sh T, .sh K, .sh b, .sh q, .sh c] = .ok (flagS l s && f) [.sh (itsP l), .sh (.int ((s : Int) - 1)), .sh e, .sh w, .sh m, .sh N, .sh T, .sh K, .sh b, .sh q, .sh c] := by
  obtain ⟨x, hx1, hx2⟩ := hx
  unfold flagS flg
  by_cases hz : 1 ≤ s
  · have e := ix_items l (s - 1) (by omega)
    rw [show ((s - 1 : Nat) : Int) = (s : Int) - 1 by omega] at e
    have h0 : (0 : Int) ≤ (s : Int) - 1 := by omega
    rw [List.getElem?_eq_getElem (show s - 1 < l.length by omega)]
    generalize (s : Int) - 1 = a at *
    cases hx : l[s - 1] with
    | box w t => rw [hx] at e; simp [e, h0, hz, ix0, kd_pen, isPen, tr_bl]
    | glue w p b => rw [hx] at e; simp [e, h0, hz, ix0, kd_pen, isPen, tr_bl]
    | pen w c f => rw [hx] at e; cases f <;> simp [e, h0, hz, ix0, kd_pen, isPen, tr_bl, px3p, hx1, hx2]
  · have h0 : ¬ (0 : Int) ≤ (s : Int) - 1 := by omega
    generalize (s : Int) - 1 = a at *
    simp [hz, h0, tr_bl]
theorem F__law_demerits_ok {l : List Item} (g : Good l) {s e : Nat} {w : Int} (hs : s ≤ e) (he : e < l.length) (w0 : 0 ≤ w) (w1 : w ≤ 100000) :
    F__law_demerits [itsP l, .int ((s : Int) - 1), .int (e : Int), .int w] = .ok (optI (dem l s e w)) .non := by
  have hL := F__law_line_ok l hs (by omega) g.len
  have e0 := ix_items l e he
  have hF := fun (m N T K b q c : PV) => law_flag l (s := s) (by omega) .non (.int w) m N T K b q c (e := .int (e : Int)) (f := flgI l[e])
  refine run_ex (env := [.sh (itsP l), .sh (.int ((s : Int) - 1)), .sh (.int (e : Int)), .sh (.int w), .un, .un, .un, .un, .un, .un, .un]) ?_
  unfold den__law_demerits
  have hd : dem l s e w = match lineOf l s e with
    | none => none
    | some m => match bad (natS m + extW l e) (strS m) (shrS m) w with
      | none => none
      | some b => some ((1 + b) * (1 + b) + adjI (flagS l s) l[e]) := by unfold dem adj; rw [List.getElem?_eq_getElem he] <;> rfl
  cases hm : lineOf l s e with
  | none =>
    rw [hm] at hd hL
    rw [hd]
    exact ⟨_, by simp [hL, optP, optI, isN_non]; rfl⟩
  | some m =>
    rw [hm] at hd hL
    have ln := lineOf_Ln g hm
    have hS := F__law_sums_ok l m he ln.len
    have b1 := nat_bd ln
    have b2 := str_bd ln
    have b3 := shr_bd ln
    have b4 := ext_bd g e
    have hB := F__law_badness_ok (n := natS m + extW l e) (st := strS m) (sk := shrS m) (w := w) (by omega) (by omega) (by omega) (by omega) (by omega) (by omega) w0 w1
    have hbd := fun b => bad_bd (b := b) (n := natS m + extW l e) (st := strS m) (sk := shrS m) (w := w) (by omega) (by omega) (by omega) (by omega) (by omega) (by omega) w0 w1
    have hpen : ∀ w' c f, l[e] = .pen w' c f → -10000 ≤ c ∧ c ≤ 10000 := fun w' c f hx => by have := g.ok l[e] (List.getElem_mem he); rw [hx] at this; exact this
    simp only [] at hd
    generalize dem l s e w = D at *
    generalize natS m + extW l e = N at *
    generalize strS m = T at *
    generalize shrS m = K at *
    generalize (s : Int) - 1 = a at *
    generalize (e : Int) = z at *
    generalize flagS l s = fl1 at *
    generalize l[e] = x at *
    cases hb : bad N T K w with
    | none => rw [hb] at hB hd; subst hd; exact ⟨_, by simp [hL, optP, isN_its, hS, hB, optI, isN_non]; rfl⟩
    | some b =>
      rw [hb] at hB hd
      subst hd
      obtain ⟨bb1, bb2⟩ := hbd b hb
      have sm1 : smallI (1 + b) = true := smI (by omega) (by omega)
      have key : ∃ ρ, (sSeq (sIf (bVal (d2 gEq (d2 gIx (d2 gIx (dVar 0) (dVar 2)) (dC (.int 0))) (dC (.str ("penalty" : Str))))) (sSeq (sSet 10 (d2 gIx (d2 gIx (dVar 0) (dVar 2)) (dC (.int 2))))
    (sSeq (sIf (bVal (d2 gGe (dVar 10) (dC (.int 0)))) (sSet 9 (dAdd (dVar 9) (dMul (dVar 10) (dVar 10)))) (sIf (bVal (d2 gGt (dVar 10) (dNeg (dC (.int 10000))))) (sSet 9 (dSub (dVar 9) (dMul (dVar 10) (dVar 10)))) sNx))
    (sIf (bAnd (bVal (d2 gGe (dVar 1) (dC (.int 0)))) (bAnd (bVal (d2 gEq (d2 gIx (d2 gIx (dVar 0) (dVar 1)) (dC (.int 0))) (dC (.str ("penalty" : Str))))) (bAnd (bTru (d2 gIx (d2 gIx (dVar 0) (dVar 1)) (dC (.int 3)))) (bTru (d2 gIx (d2 gIx (dVar 0) (dVar 2)) (dC (.int 3))))))) (sSet 9 (dAdd (dVar 9) (dC (.int 3000)))) sNx))) sNx)
    (sRet (dVar 9))) [.sh (itsP l), .sh (.int a), .sh (.int z), .sh (.int w), .sh (itsP m), .sh (.int N), .sh (.int T), .sh (.int K), .sh (.int b), .sh (.int ((1 + b) * (1 + b))), .un] = .rt (.int ((1 + b) * (1 + b) + adjI fl1 x)) ρ := by
        generalize (1 + b) * (1 + b) = Q
        cases x with
        | box w' t => exact ⟨_, by simp [e0, ix0, kd_pen, isPen, adjI]; rfl⟩
        | glue w' p' b' => exact ⟨_, by simp [e0, ix0, kd_pen, isPen, adjI]; rfl⟩
        | pen w' c f =>
          obtain ⟨p1, p2⟩ := hpen w' c f rfl
          have sc : smallI c = true := smI (by omega) (by omega)
          have hF := fun q => hF (itsP m) (.int N) (.int T) (.int K) (.int b) q (.int c) ⟨_, e0, rfl⟩
          have hF : ∀ q, (bAnd (bVal (d2 gGe (dVar 1) (dC (.int 0)))) (bAnd (bVal (d2 gEq (d2 gIx (d2 gIx (dVar 0) (dVar 1)) (dC (.int 0))) (dC (.str ("penalty" : Str))))) (bAnd (bTru (d2 gIx (d2 gIx (dVar 0) (dVar 1)) (dC (.int 3)))) (bTru (d2 gIx (d2 gIx (dVar 0) (dVar 2)) (dC (.int 3))))))) _ = _ := hF
          have T2 : ∀ q : Int, (sIf (bAnd (bVal (d2 gGe (dVar 1) (dC (.int 0)))) (bAnd (bVal (d2 gEq (d2 gIx (d2 gIx (dVar 0) (dVar 1)) (dC (.int 0))) (dC (.str ("penalty" : Str))))) (bAnd (bTru (d2 gIx (d2 gIx (dVar 0) (dVar 1)) (dC (.int 3)))) (bTru (d2 gIx (d2 gIx (dVar 0) (dVar 2)) (dC (.int 3))))))) (sSet 9 (dAdd (dVar 9) (dC (.int 3000)))) sNx) [.sh (itsP l), .sh (.int a), .sh (.int z), .sh (.int w), .sh (itsP m), .sh (.int N), .sh (.int T), .sh (.int K), .sh (.int b), .sh (.int (q)), .sh (.int c)] = .nx [.sh (itsP l), .sh (.int a), .sh (.int z), .sh (.int w), .sh (itsP m), .sh (.int N), .sh (.int T), .sh (.int K), .sh (.int b), .sh (.int (q + if fl1 && f then 3000 else 0)), .sh (.int c)] := by
            intro q
            rw [ap_sIf, hF]
            cases hq : fl1 && flgI (.pen w' c f) with
            | true => have : (fl1 && f) = true := hq; simp [this]
            | false => have : (fl1 && f) = false := hq; simp [this]
          have T1 : (sIf (bVal (d2 gGe (dVar 10) (dC (.int 0)))) (sSet 9 (dAdd (dVar 9) (dMul (dVar 10) (dVar 10)))) (sIf (bVal (d2 gGt (dVar 10) (dNeg (dC (.int 10000))))) (sSet 9 (dSub (dVar 9) (dMul (dVar 10) (dVar 10)))) sNx)) [.sh (itsP l), .sh (.int a), .sh (.int z), .sh (.int w), .sh (itsP m), .sh (.int N), .sh (.int T), .sh (.int K), .sh (.int b), .sh (.int (Q)), .sh (.int c)] = .nx [.sh (itsP l), .sh (.int a), .sh (.int z), .sh (.int w), .sh (itsP m), .sh (.int N), .sh (.int T), .sh (.int K), .sh (.int b), .sh (.int (Q + (if 0 ≤ c then c * c else if -10000 < c then -(c * c) else 0))), .sh (.int c)] := by
            by_cases c0 : 0 ≤ c
            · simp [c0, sc]
            · by_cases c1 : -10000 < c
              · simp [c0, c1, sc, Int.sub_eq_add_neg]
              · simp [c0, c1]
          have T0 : sSet 10 (d2 gIx (d2 gIx (dVar 0) (dVar 2)) (dC (.int 2))) [.sh (itsP l), .sh (.int a), .sh (.int z), .sh (.int w), .sh (itsP m), .sh (.int N), .sh (.int T), .sh (.int K), .sh (.int b), .sh (.int (Q)), .un] = .nx [.sh (itsP l), .sh (.int a), .sh (.int z), .sh (.int w), .sh (itsP m), .sh (.int N), .sh (.int T), .sh (.int K), .sh (.int b), .sh (.int (Q)), .sh (.int c)] := by simp [e0, px2]
          have T3 : bVal (d2 gEq (d2 gIx (d2 gIx (dVar 0) (dVar 2)) (dC (.int 0))) (dC (.str ("penalty" : Str)))) [.sh (itsP l), .sh (.int a), .sh (.int z), .sh (.int w), .sh (itsP m), .sh (.int N), .sh (.int T), .sh (.int K), .sh (.int b), .sh (.int (Q)), .un] = .ok true [.sh (itsP l), .sh (.int a), .sh (.int z), .sh (.int w), .sh (itsP m), .sh (.int N), .sh (.int T), .sh (.int K), .sh (.int b), .sh (.int (Q)), .un] := by simp [e0, ix0, kd_pen, isPen]
          rw [seq_nx (ρ1 := [.sh (itsP l), .sh (.int a), .sh (.int z), .sh (.int w), .sh (itsP m), .sh (.int N), .sh (.int T), .sh (.int K), .sh (.int b), .sh (.int (Q + (if 0 ≤ c then c * c else if -10000 < c then -(c * c) else 0) + if fl1 && f then 3000 else 0)), .sh (.int c)]) (by rw [sIf_t T3, seq_nx T0, seq_nx T1, T2])]
          exact ⟨_, by simp [adjI, Int.add_assoc]; rfl⟩
      obtain ⟨ρ, key⟩ := key
      refine ⟨ρ, ?_⟩
      rw [seq_nx (ρ1 := [.sh (itsP l), .sh (.int a), .sh (.int z), .sh (.int w), .sh (itsP m), .un, .un, .un, .un, .un, .un]) (by simp [hL, optP]),
        seq_nx (ρ1 := [.sh (itsP l), .sh (.int a), .sh (.int z), .sh (.int w), .sh (itsP m), .un, .un, .un, .un, .un, .un]) (by simp [isN_its]),
        seq_nx (ρ1 := [.sh (itsP l), .sh (.int a), .sh (.int z), .sh (.int w), .sh (itsP m), .sh (.int N), .sh (.int T), .sh (.int K), .un, .un, .un]) (by simp [hS]),
        seq_nx (ρ1 := [.sh (itsP l), .sh (.int a), .sh (.int z), .sh (.int w), .sh (itsP m), .sh (.int N), .sh (.int T), .sh (.int K), .sh (.int b), .un, .un]) (by simp [hB, optI]),
        seq_nx (ρ1 := [.sh (itsP l), .sh (.int a), .sh (.int z), .sh (.int w), .sh (itsP m), .sh (.int N), .sh (.int T), .sh (.int K), .sh (.int b), .un, .un]) (by simp [isN_int]),
        seq_nx (ρ1 := [.sh (itsP l), .sh (.int a), .sh (.int z), .sh (.int w), .sh (itsP m), .sh (.int N), .sh (.int T), .sh (.int K), .sh (.int b), .sh (.int ((1 + b) * (1 + b))), .un]) (by simp [sm1]), key]
      rfl
end PL.K70

set_option Elab.async false
set_option linter.all false
set_option maxRecDepth 100000
set_option maxHeartbeats 4000000
namespace PL.K70
open PySem PySem.Spec L2 PL
set_option autoImplicit false
/-! ### places and lines -/
theorem brks_lt {l : List Item} {i : Nat} (h : i ∈ brks l) : i < l.length := List.mem_range.mp (List.mem_filter.mp h).1
theorem brks_len (l : List Item) : (brks l).length ≤ l.length := by
  have := List.length_filter_le (brk l) (List.range l.length)
  simpa [brks] using this
theorem in_brks {neg : Bool} {l : List Item} (hl : l.length ≤ 400) (a : Int) : gIn neg (.int a) (nP (brks l)) = some (.bl (if neg then !((brks l).any fun c => decide ((c : Int) = a)) else (brks l).any fun c => decide ((c : Int) = a))) :=
  gIn_ints neg a (fun c : Nat => (c : Int)) (brks l) (by have := brks_len l; omega)
def From (l : List Item) (s : Nat) : Prop := s = 0 ∨ (1 ≤ s ∧ s - 1 ∈ brks l)
theorem F_check_places_ok {l : List Item} (g : Good l) {s e : Nat} (hs : From l s) (he : e ∈ brks l) (h : s ≤ e) : F_check_places [itsP l, .int ((s : Int) - 1), .int (e : Int)] = .ok .non .non := by
  have h1 := F_check_items_ok g
  have h2 := F_all_breaks_ok l g.len
  have h3 := in_brks (neg := true) g.len ((s : Int) - 1)
  have h4 := in_brks (neg := true) g.len (e : Int)
  have h5 : ((brks l).any fun c => decide ((c : Int) = (e : Int))) = true := List.any_eq_true.mpr ⟨e, he, by simp⟩
  have h6 : (s : Int) - 1 = -1 ∨ ((brks l).any fun c => decide ((c : Int) = (s : Int) - 1)) = true := by
    rcases hs with h0 | ⟨h0, h7⟩
    · left; omega
    · right; exact List.any_eq_true.mpr ⟨s - 1, h7, by simp; omega⟩
  have h7 : ¬ (e : Int) ≤ (s : Int) - 1 := by omega
  rw [h5] at h4
  generalize (s : Int) - 1 = a at *
  generalize (e : Int) = z at *
  generalize nP (brks l) = B at *
  refine run_nx (env := [.sh (itsP l), .sh (.int a), .sh (.int z), .un]) (ρ := [.sh (itsP l), .sh (.int a), .sh (.int z), .sh B]) ?_
  unfold den_check_places
  rw [seq_nx (ρ1 := [.sh (itsP l), .sh (.int a), .sh (.int z), .un]) (by simp [h1]), seq_nx (ρ1 := [.sh (itsP l), .sh (.int a), .sh (.int z), .sh B]) (by simp [h2])]
  rcases h6 with h6 | h6
  · simp [h6, h4, h7]
    intro h8
    rw [h6] at h7
    exact absurd h8 h7
  · rw [h6] at h3
    by_cases h8 : a = -1
    · rw [h8] at h7 h3 ⊢
      simp [h3, h4, h7]
    · simp [h8, h3, h4, h7]
theorem F_line_of_ok {l : List Item} (g : Good l) {s e : Nat} (hs : From l s) (he : e ∈ brks l) (h : s ≤ e) : F_line_of [itsP l, .int ((s : Int) - 1), .int (e : Int)] = .ok (optP (lineOf l s e)) .non := by
  have h1 := F_check_places_ok g hs he h
  have h2 := F_line_between_ok l h (Nat.le_of_lt (brks_lt he)) g.len
  generalize (s : Int) - 1 = a at *
  generalize (e : Int) = z at *
  refine run_rt (env := [.sh (itsP l), .sh (.int a), .sh (.int z)]) (ρ := [.sh (itsP l), .sh (.int a), .sh (.int z)]) ?_
  simp [den_line_of, h1, h2]
theorem F_measures_ok {l m : List Item} (g : Good l) {s e : Nat} (hs : From l s) (he : e ∈ brks l) (h : s ≤ e) (hm : lineOf l s e = some m) : F_measures [itsP l, .int ((s : Int) - 1), .int (e : Int)] = .ok (.tup [.int (natS m + extW l e), .int (strS m), .int (shrS m)]) .non := by
  have h1 := F_line_of_ok g hs he h
  have h2 := F_sums_of_ok l m (brks_lt he) (lineOf_Ln g hm).len
  rw [hm] at h1
  generalize (s : Int) - 1 = a at *
  generalize (e : Int) = z at *
  generalize natS m + extW l e = N at *
  refine run_rt (env := [.sh (itsP l), .sh (.int a), .sh (.int z), .un]) (ρ := [.sh (itsP l), .sh (.int a), .sh (.int z), .sh (itsP m)]) ?_
  simp [den_measures, h1, h2, optP, isN_its]
/-! ### fractions -/
theorem gcd_small {a : Int} {b : Nat} (hb : 0 < b) (hb2 : b ≤ 1000000) : 0 < ((Nat.gcd a.natAbs b : Nat) : Int) ∧ ((Nat.gcd a.natAbs b : Nat) : Int) ≤ 1000000 := by
  have h1 := Nat.gcd_pos_of_pos_right a.natAbs hb
  have h2 := Nat.le_of_dvd hb (Nat.gcd_dvd_right a.natAbs b)
  omega
theorem F_fraction_ok (a : Int) {b : Nat} (hb : 0 < b) (hb2 : b ≤ 1000000) : F_fraction [.int a, .int (b : Int)] = .ok (.tup [.int (a / (Nat.gcd a.natAbs b : Nat)), .int ((b : Int) / (Nat.gcd a.natAbs b : Nat))]) .non := by
  obtain ⟨h1, h2⟩ := gcd_small (a := a) hb hb2
  have h3 := lg2 (by omega) h1
  have h4 : gGcd [.int a, .int (b : Int)] = some (.int ((Nat.gcd a.natAbs b : Nat) : Int)) := by rw [ap_gcd]; rfl
  generalize ((Nat.gcd a.natAbs b : Nat) : Int) = q at *
  generalize (b : Int) = z at *
  refine run_rt (env := [.sh (.int a), .sh (.int z), .un]) (ρ := [.sh (.int a), .sh (.int z), .sh (.int q)]) ?_
  simp [den_fraction, h4, h1, h3, szn (show 2 ≤ 1000000 by omega), -ap_gcd]
theorem div_loop : ∀ (n : Nat) (b : Nat) (a : Int), b < n → ∃ c : Int, c.natAbs = Nat.gcd a.natAbs b ∧ dWhile (bVal (d2 gNe (dVar 1) (dC (.int 0)))) B__law_divisor_1 n [.sh (.int a), .sh (.int (b : Int))] = .nx [.sh (.int c), .sh (.int 0)]
  | n + 1, b, a, h => by
    by_cases hb : b = 0
    · subst hb
      refine ⟨a, by simp, ?_⟩
      simp [dWhile]
    · have e1 : a % (b : Int) = ((a % (b : Int)).toNat : Int) := by rw [Int.toNat_of_nonneg (Int.emod_nonneg _ (by omega))]
      have lt : (a % (b : Int)).toNat < b := by have := Int.emod_lt_of_pos a (show (0 : Int) < b by omega); omega
      obtain ⟨c, h1, h2⟩ := div_loop n (a % (b : Int)).toNat (b : Int) (by omega)
      refine ⟨c, ?_, ?_⟩
      · rw [h1]
        have e2 : Int.gcd (b : Int) (a % (b : Int) + a / (b : Int) * (b : Int)) = Int.gcd (b : Int) (a % (b : Int)) := Int.gcd_add_mul_right_right _ _ _
        have e3 : a % (b : Int) + a / (b : Int) * (b : Int) = a := by rw [Int.mul_comm]; exact Int.emod_add_mul_ediv a b
        rw [e3, Int.gcd_eq_natAbs_gcd_natAbs, Int.gcd_eq_natAbs_gcd_natAbs] at e2
        have e4 : (a % (b : Int)).natAbs = (a % (b : Int)).toNat := by omega
        rw [e4] at e2
        rw [← e2, Nat.gcd_comm]
        rfl
      · have hb' : (0 : Int) < (b : Int) := by omega
        have hb2 : ¬ (b : Int) = 0 := by omega
        rw [← e1] at h2
        generalize (b : Int) = z at *
        unfold dWhile
        have S : B__law_divisor_1 [.sh (.int a), .sh (.int z)] = .nx [.sh (.int z), .sh (.int (a % z))] := by simp [B__law_divisor_1, hb']
        simp [hb2, S, h2]
theorem F__law_divisor_ok (a : Int) (b : Nat) : F__law_divisor [.int a, .int (b : Int)] = .ok (.int (Nat.gcd a.natAbs b : Nat)) .non := by
  obtain ⟨c, h1, h2⟩ := div_loop (b + 2) b a (by omega)
  rw [← h1]
  have h3 : (if c < 0 then -c else c) = ((c.natAbs : Nat) : Int) := by split <;> omega
  refine run_rt (env := [.sh (.int a), .sh (.int (b : Int))]) (ρ := [.sh (.int c), .sh (.int 0)]) ?_
  unfold den__law_divisor
  rw [seq_nx (ρ1 := [.sh (.int c), .sh (.int 0)])]
  · simp [h3]
  · unfold sWhile
    rw [show muI 1 [.sh (.int a), .sh (.int (b : Int))] = b + 2 by simp [muI], h2]
end PL.K70

set_option Elab.async false
set_option linter.all false
set_option maxRecDepth 100000
set_option maxHeartbeats 4000000
namespace PL.K70
open PySem PySem.Spec L2 PL
set_option autoImplicit false
/-! ### a line, set -/
abbrev RowT := (Int × Int) × Str
def rwP (r : RowT) : PV := .tup [.tup [.int r.1.1, .int r.1.2], .str r.2]
def rwsP (l : List RowT) : PV := .lst (l.map rwP)
def gc (p : Int) (b : Nat) : Int := (Nat.gcd p.natAbs b : Nat)
def setStep (gap whole : Int) (below : Nat) (s : Int × List RowT) : Item → Int × List RowT
  | .box w t => (s.1 + w * below, s.2 ++ [((s.1 / gc s.1 below, (below : Int) / gc s.1 below), t)])
  | .glue w a b => (s.1 + (w * below + if 0 < whole then gap * (if 0 < gap then a else b) else 0), s.2)
  | .pen .. => s
theorem set_len (gap whole : Int) (below : Nat) : ∀ (l : List Item) (s : Int × List RowT), (l.foldl (setStep gap whole below) s).2.length ≤ s.2.length + l.length
  | [], s => Nat.le_refl _
  | i :: l, s => by
    have h := set_len gap whole below l (setStep gap whole below s i)
    have h2 : (setStep gap whole below s i).2.length ≤ s.2.length + 1 := by
      cases i <;> simp [setStep]
    rw [List.foldl_cons, List.length_cons]
    omega
theorem app_row {l : List RowT} {r : RowT} (h : l.length ≤ 100000) : gAppend (rwsP l) [rwP r] = some (rwsP (l ++ [r]), .non) := by
  unfold rwsP
  rw [ap_app, if_pos (by rw [List.length_map, sizeLine_eq]; omega)]
  simp
theorem px2b (w : Nat) (t : Str) : gIx (itP (.box w t)) (.int 2) = some (.str t) := rfl
section
variable {gap whole w : Int} {below : Nat} {N T K a z p : PV} {l : List Item} {place : Int} {found : List RowT} (hb : 0 < below) (hb2 : below ≤ 1000000) (hg : smallI gap = true) (hw : 0 < whole → whole = (below : Int))
include hb hb2 hg
theorem set_line_one (i : Item) (hf : found.length ≤ 100000) (s13 : Sl) :
    ∃ s13', B_set_line_1 [.sh p, .sh a, .sh z, .sh (.int w), .sh N, .sh T, .sh K, .sh (.int gap), .sh (.int whole), .sh (.int (below : Int)), .sh (.int place), .ow (rwsP found), .sh (itP i), s13] =
      .nx [.sh p, .sh a, .sh z, .sh (.int w), .sh N, .sh T, .sh K, .sh (.int gap), .sh (.int whole), .sh (.int (below : Int)), .sh (.int (setStep gap whole below (place, found) i).1), .ow (rwsP (setStep gap whole below (place, found) i).2), .sh (itP i), s13'] := by
  have sb : smallI (below : Int) = true := smI (by omega) (by omega)
  have ht : isT "list" (rwsP found) = true := rfl
  unfold B_set_line_1
  cases i with
  | box w' t =>
    have hF := F_fraction_ok place hb hb2
    have ha := app_row (r := ((place / gc place below, (below : Int) / gc place below), t)) hf
    refine ⟨s13, ?_⟩
    unfold gc at *
    unfold setStep gc
    generalize (below : Int) = B at *
    generalize ((Nat.gcd place.natAbs below : Nat) : Int) = G at *
    have ha : gAppend (rwsP found) [.tup [.tup [.int (place / G), .int (B / G)], .str t]] = _ := ha
    simp [ix0, kd_box, isBox, hF, px1, px2b, wd, sb, ht, ha, szn (show 2 ≤ 1000000 by omega)]
  | glue w' a' b' =>
    unfold setStep
    have h2 : gIx (itP (.glue w' a' b')) (.int 2) = some (.int (a' : Nat)) := rfl
    have h3 : gIx (itP (.glue w' a' b')) (.int 3) = some (.int (b' : Nat)) := rfl
    generalize (below : Int) = B at *
    by_cases g0 : 0 < gap
    · by_cases w0 : 0 < whole
      · exact ⟨_, by simp [ix0, kd_box, kd_glue, isBox, isGlue, px1, h2, wd, sb, g0, w0, hg]; rfl⟩
      · exact ⟨_, by simp [ix0, kd_box, kd_glue, isBox, isGlue, px1, h2, wd, sb, g0, w0, hg]; rfl⟩
    · by_cases w0 : 0 < whole
      · exact ⟨_, by simp [ix0, kd_box, kd_glue, isBox, isGlue, px1, h3, wd, sb, g0, w0, hg]; rfl⟩
      · exact ⟨_, by simp [ix0, kd_box, kd_glue, isBox, isGlue, px1, h3, wd, sb, g0, w0, hg]; rfl⟩
  | pen w' c f =>
    exact ⟨s13, by simp [ix0, kd_box, kd_glue, isBox, isGlue, setStep]⟩
theorem law_set_one {M : PV} (i : Item) (hf : found.length ≤ 100000) (s14 : Sl) :
    ∃ s14', B__law_set_1 [.sh p, .sh a, .sh z, .sh (.int w), .sh M, .sh N, .sh T, .sh K, .sh (.int gap), .sh (.int whole), .sh (.int (below : Int)), .sh (.int place), .ow (rwsP found), .sh (itP i), s14] =
      .nx [.sh p, .sh a, .sh z, .sh (.int w), .sh M, .sh N, .sh T, .sh K, .sh (.int gap), .sh (.int whole), .sh (.int (below : Int)), .sh (.int (setStep gap whole below (place, found) i).1), .ow (rwsP (setStep gap whole below (place, found) i).2), .sh (itP i), s14'] := by
  have sb : smallI (below : Int) = true := smI (by omega) (by omega)
  have ht : isT "list" (rwsP found) = true := rfl
  unfold B__law_set_1
  cases i with
  | box w' t =>
    have hF := F__law_divisor_ok place below
    obtain ⟨h1, h2⟩ := gcd_small (a := place) hb hb2
    have h3 := lg2 (by omega) h1
    have ha := app_row (r := ((place / gc place below, (below : Int) / gc place below), t)) hf
    unfold gc at *
    unfold setStep gc
    generalize (below : Int) = B at *
    generalize ((Nat.gcd place.natAbs below : Nat) : Int) = G at *
    have ha : gAppend (rwsP found) [.tup [.tup [.int (place / G), .int (B / G)], .str t]] = _ := ha
    exact ⟨_, by simp [ix0, kd_box, kd_glue, isBox, isGlue, hF, px1, px2b, wd, sb, ht, ha, h1, h3, szn (show 2 ≤ 1000000 by omega)]; rfl⟩
  | glue w' a' b' =>
    unfold setStep
    have h2 : gIx (itP (.glue w' a' b')) (.int 2) = some (.int (a' : Nat)) := rfl
    have h3 : gIx (itP (.glue w' a' b')) (.int 3) = some (.int (b' : Nat)) := rfl
    generalize (below : Int) = B at *
    by_cases g0 : 0 < gap
    · by_cases w0 : 0 < whole
      · exact ⟨_, by simp [ix0, kd_box, kd_glue, isBox, isGlue, px1, h2, wd, sb, g0, w0, hg, Int.add_assoc]; rfl⟩
      · exact ⟨_, by simp [ix0, kd_box, kd_glue, isBox, isGlue, px1, h2, wd, sb, g0, w0, hg]; rfl⟩
    · by_cases w0 : 0 < whole
      · exact ⟨_, by simp [ix0, kd_box, kd_glue, isBox, isGlue, px1, h3, wd, sb, g0, w0, hg, Int.add_assoc]; rfl⟩
      · exact ⟨_, by simp [ix0, kd_box, kd_glue, isBox, isGlue, px1, h3, wd, sb, g0, w0, hg]; rfl⟩
  | pen w' c f =>
    exact ⟨s14, by simp [ix0, kd_box, kd_glue, isBox, isGlue, setStep]⟩
end
def wholeOf (gap T K : Int) : Int := if 0 < gap then T else K
def belowOf (whole : Int) : Nat := if 0 < whole then whole.toNat else 1
/-- the line m of the paragraph l up to e, set in the width w -/
def setOf (l m : List Item) (e : Nat) (w : Int) : Int × List RowT :=
  m.foldl (setStep (w - (natS m + extW l e)) (wholeOf (w - (natS m + extW l e)) (strS m) (shrS m)) (belowOf (wholeOf (w - (natS m + extW l e)) (strS m) (shrS m)))) (0, [])
theorem F_set_line_ok {l m : List Item} (g : Good l) {s e : Nat} {w : Int} (hs : From l s) (he : e ∈ brks l) (h : s ≤ e) (hm : lineOf l s e = some m) (w0 : 0 ≤ w) (w1 : w ≤ 100000) (hb : dem l s e w ≠ none) :
    F_set_line [itsP l, .int ((s : Int) - 1), .int (e : Int), .int w] = .ok (rwsP (setOf l m e w).2) .non := by
  have h1 := F_measures_ok g hs he h hm
  have h2 := F_line_of_ok g hs he h
  rw [hm] at h2
  have ln := lineOf_Ln g hm
  have b1 := nat_bd ln
  have b2 := str_bd ln
  have b3 := shr_bd ln
  have b4 := ext_bd g e
  have hB := F_badness_ok (n := natS m + extW l e) (st := strS m) (sk := shrS m) (w := w) (by omega) (by omega) (by omega) (by omega) (by omega) (by omega) w0 w1
  have hd : bad (natS m + extW l e) (strS m) (shrS m) w ≠ none := by
    intro hz
    apply hb
    unfold dem
    rw [hm]
    simp only [hz]
  unfold setOf
  have hbel : 0 < belowOf (wholeOf (w - (natS m + extW l e)) (strS m) (shrS m)) ∧ belowOf (wholeOf (w - (natS m + extW l e)) (strS m) (shrS m)) ≤ 1000000 := by
    unfold belowOf wholeOf
    constructor <;> (split <;> (try split) <;> omega)
  have hI : (if wholeOf (w - (natS m + extW l e)) (strS m) (shrS m) > 0 then wholeOf (w - (natS m + extW l e)) (strS m) (shrS m) else 1) = ((belowOf (wholeOf (w - (natS m + extW l e)) (strS m) (shrS m)) : Nat) : Int) := by
    unfold belowOf
    split <;> omega
  have hg : smallI (w - (natS m + extW l e)) = true := smI (by omega) (by omega)
  have hw : wholeOf (w - (natS m + extW l e)) (strS m) (shrS m) = if 0 < w - (natS m + extW l e) then strS m else shrS m := rfl
  generalize natS m + extW l e = N at *
  generalize strS m = T at *
  generalize shrS m = K at *
  generalize (s : Int) - 1 = a at *
  generalize (e : Int) = z at *
  generalize hG : w - N = gap at *
  generalize wholeOf gap T K = whole at *
  generalize belowOf whole = B at *
  cases hbd : bad N T K w with
  | none => exact absurd hbd hd
  | some b =>
    rw [hbd] at hB
    obtain ⟨ρ, h3, t12, t13, h4⟩ := dLoop_foldP (tgt := gName 12) (body := B_set_line_1)
      (fun (st : Int × List RowT) ρ => ∃ s12 s13, ρ = [.sh (itsP l), .sh (.int a), .sh (.int z), .sh (.int w), .sh (.int N), .sh (.int T), .sh (.int K), .sh (.int gap), .sh (.int whole), .sh (.int (B : Int)), .sh (.int st.1), .ow (rwsP st.2), s12, s13]) itP (setStep gap whole B) (0, []) m
      (fun pre i post ρ e1 hr => by
        obtain ⟨s12, s13, rfl⟩ := hr
        have hlen := set_len gap whole B pre (0, [])
        have hpl : pre.length ≤ m.length := by rw [e1]; simp
        have := ln.len
        obtain ⟨t13, hone⟩ := set_line_one (N := .int N) (T := .int T) (K := .int K) (a := .int a) (z := .int z) (p := itsP l) (w := w) (whole := whole) (place := (pre.foldl (setStep gap whole B) (0, [])).1) (found := (pre.foldl (setStep gap whole B) (0, [])).2) hbel.1 hbel.2 hg i (by simp at hlen; omega) s13
        exact ⟨_, _, rfl, .inl hone, _, _, rfl⟩)
      (ρ0 := [.sh (itsP l), .sh (.int a), .sh (.int z), .sh (.int w), .sh (.int N), .sh (.int T), .sh (.int K), .sh (.int gap), .sh (.int whole), .sh (.int (B : Int)), .sh (.int 0), .ow (.lst []), .un, .un]) ⟨_, _, rfl⟩
    subst h4
    generalize m.foldl (setStep gap whole B) (0, []) = st at *
    refine run_ex (env := [.sh (itsP l), .sh (.int a), .sh (.int z), .sh (.int w), .un, .un, .un, .un, .un, .un, .un, .un, .un, .un]) ?_
    unfold den_set_line
    generalize (B : Int) = BI at *
    rw [seq_nx (ρ1 := [.sh (itsP l), .sh (.int a), .sh (.int z), .sh (.int w), .sh (.int N), .sh (.int T), .sh (.int K), .un, .un, .un, .un, .un, .un, .un]) (by simp [h1]),
      seq_nx (ρ1 := [.sh (itsP l), .sh (.int a), .sh (.int z), .sh (.int w), .sh (.int N), .sh (.int T), .sh (.int K), .un, .un, .un, .un, .un, .un, .un]) (by simp [hB, optI, isN_int]),
      seq_nx (ρ1 := [.sh (itsP l), .sh (.int a), .sh (.int z), .sh (.int w), .sh (.int N), .sh (.int T), .sh (.int K), .sh (.int gap), .un, .un, .un, .un, .un, .un]) (by simp [hG]),
      seq_nx (ρ1 := [.sh (itsP l), .sh (.int a), .sh (.int z), .sh (.int w), .sh (.int N), .sh (.int T), .sh (.int K), .sh (.int gap), .sh (.int whole), .un, .un, .un, .un, .un]) (by rw [hw]; by_cases g0 : 0 < gap <;> simp [g0]),
      seq_nx (ρ1 := [.sh (itsP l), .sh (.int a), .sh (.int z), .sh (.int w), .sh (.int N), .sh (.int T), .sh (.int K), .sh (.int gap), .sh (.int whole), .sh (.int BI), .un, .un, .un, .un]) (by rw [← hI]; by_cases g0 : 0 < whole <;> simp [g0]),
      seq_nx (ρ1 := [.sh (itsP l), .sh (.int a), .sh (.int z), .sh (.int w), .sh (.int N), .sh (.int T), .sh (.int K), .sh (.int gap), .sh (.int whole), .sh (.int BI), .sh (.int 0), .un, .un, .un]) (by simp),
      seq_nx (ρ1 := [.sh (itsP l), .sh (.int a), .sh (.int z), .sh (.int w), .sh (.int N), .sh (.int T), .sh (.int K), .sh (.int gap), .sh (.int whole), .sh (.int BI), .sh (.int 0), .ow (.lst []), .un, .un]) (by simp),
      seq_nx (by rw [sFor_ok (xs := m.map itP) (ρ1 := [.sh (itsP l), .sh (.int a), .sh (.int z), .sh (.int w), .sh (.int N), .sh (.int T), .sh (.int K), .sh (.int gap), .sh (.int whole), .sh (.int BI), .sh (.int 0), .ow (.lst []), .un, .un]) (by simp [h2, optP]; rfl)]; exact h3)]
    exact ⟨_, by simp; rfl⟩
end PL.K70

set_option Elab.async false
set_option linter.all false
set_option maxRecDepth 100000
set_option maxHeartbeats 4000000
namespace PL.K70
open PySem PySem.Spec L2 PL
set_option autoImplicit false
/-! ### the law's line, set -/
def belowL (l m : List Item) (e : Nat) (w : Int) : Nat := belowOf (wholeOf (w - (natS m + extW l e)) (strS m) (shrS m))
theorem F__law_set_ok {l m : List Item} (g : Good l) {s e : Nat} {w : Int} (hs : s ≤ e) (he : e < l.length) (hm : lineOf l s e = some m) (w0 : 0 ≤ w) (w1 : w ≤ 100000) :
    F__law_set [itsP l, .int ((s : Int) - 1), .int (e : Int), .int w] = .ok (.tup [rwsP (setOf l m e w).2, .int (setOf l m e w).1, .int (belowL l m e w : Nat)]) .non := by
  have h1 := F__law_line_ok l hs (by omega) g.len
  have h2 := F__law_sums_ok l m he (lineOf_Ln g hm).len
  rw [hm] at h1
  have ln := lineOf_Ln g hm
  have b1 := nat_bd ln
  have b2 := str_bd ln
  have b3 := shr_bd ln
  have b4 := ext_bd g e
  unfold setOf belowL
  have hbel : 0 < belowOf (wholeOf (w - (natS m + extW l e)) (strS m) (shrS m)) ∧ belowOf (wholeOf (w - (natS m + extW l e)) (strS m) (shrS m)) ≤ 1000000 := by
    unfold belowOf wholeOf
    constructor <;> (split <;> (try split) <;> omega)
  have hI : (if 1 > wholeOf (w - (natS m + extW l e)) (strS m) (shrS m) then 1 else wholeOf (w - (natS m + extW l e)) (strS m) (shrS m)) = ((belowOf (wholeOf (w - (natS m + extW l e)) (strS m) (shrS m)) : Nat) : Int) := by
    unfold belowOf
    split <;> split <;> omega
  have hg : smallI (w - (natS m + extW l e)) = true := smI (by omega) (by omega)
  have hw : wholeOf (w - (natS m + extW l e)) (strS m) (shrS m) = if 0 < w - (natS m + extW l e) then strS m else shrS m := rfl
  generalize natS m + extW l e = N at *
  generalize strS m = T at *
  generalize shrS m = K at *
  generalize (s : Int) - 1 = a at *
  generalize (e : Int) = z at *
  generalize hG : w - N = gap at *
  generalize wholeOf gap T K = whole at *
  generalize belowOf whole = B at *
  obtain ⟨ρ, h3, t13, t14, h4⟩ := dLoop_foldP (tgt := gName 13) (body := B__law_set_1)
    (fun (st : Int × List RowT) ρ => ∃ s13 s14, ρ = [.sh (itsP l), .sh (.int a), .sh (.int z), .sh (.int w), .sh (itsP m), .sh (.int N), .sh (.int T), .sh (.int K), .sh (.int gap), .sh (.int whole), .sh (.int (B : Int)), .sh (.int st.1), .ow (rwsP st.2), s13, s14]) itP (setStep gap whole B) (0, []) m
    (fun pre i post ρ e1 hr => by
      obtain ⟨s13, s14, rfl⟩ := hr
      have hlen := set_len gap whole B pre (0, [])
      have hpl : pre.length ≤ m.length := by rw [e1]; simp
      have := ln.len
      obtain ⟨t13, hone⟩ := law_set_one (M := itsP m) (N := .int N) (T := .int T) (K := .int K) (a := .int a) (z := .int z) (p := itsP l) (w := w) (whole := whole) (place := (pre.foldl (setStep gap whole B) (0, [])).1) (found := (pre.foldl (setStep gap whole B) (0, [])).2) hbel.1 hbel.2 hg i (by simp at hlen; omega) s14
      exact ⟨_, _, rfl, .inl hone, _, _, rfl⟩)
    (ρ0 := [.sh (itsP l), .sh (.int a), .sh (.int z), .sh (.int w), .sh (itsP m), .sh (.int N), .sh (.int T), .sh (.int K), .sh (.int gap), .sh (.int whole), .sh (.int (B : Int)), .sh (.int 0), .ow (.lst []), .un, .un]) ⟨_, _, rfl⟩
  subst h4
  generalize m.foldl (setStep gap whole B) (0, []) = st at *
  refine run_ex (env := [.sh (itsP l), .sh (.int a), .sh (.int z), .sh (.int w), .un, .un, .un, .un, .un, .un, .un, .un, .un, .un, .un]) ?_
  unfold den__law_set
  generalize (B : Int) = BI at *
  rw [seq_nx (ρ1 := [.sh (itsP l), .sh (.int a), .sh (.int z), .sh (.int w), .sh (itsP m), .un, .un, .un, .un, .un, .un, .un, .un, .un, .un]) (by simp [h1, optP]),
    seq_nx (ρ1 := [.sh (itsP l), .sh (.int a), .sh (.int z), .sh (.int w), .sh (itsP m), .sh (.int N), .sh (.int T), .sh (.int K), .un, .un, .un, .un, .un, .un, .un]) (by simp [h2]),
    seq_nx (ρ1 := [.sh (itsP l), .sh (.int a), .sh (.int z), .sh (.int w), .sh (itsP m), .sh (.int N), .sh (.int T), .sh (.int K), .sh (.int gap), .un, .un, .un, .un, .un, .un]) (by simp [hG]),
    seq_nx (ρ1 := [.sh (itsP l), .sh (.int a), .sh (.int z), .sh (.int w), .sh (itsP m), .sh (.int N), .sh (.int T), .sh (.int K), .sh (.int gap), .sh (.int whole), .un, .un, .un, .un, .un]) (by rw [hw]; by_cases g0 : 0 < gap <;> simp [g0]),
    seq_nx (ρ1 := [.sh (itsP l), .sh (.int a), .sh (.int z), .sh (.int w), .sh (itsP m), .sh (.int N), .sh (.int T), .sh (.int K), .sh (.int gap), .sh (.int whole), .sh (.int BI), .un, .un, .un, .un]) (by simp; exact hI),
    seq_nx (ρ1 := [.sh (itsP l), .sh (.int a), .sh (.int z), .sh (.int w), .sh (itsP m), .sh (.int N), .sh (.int T), .sh (.int K), .sh (.int gap), .sh (.int whole), .sh (.int BI), .sh (.int 0), .un, .un, .un]) (by simp),
    seq_nx (ρ1 := [.sh (itsP l), .sh (.int a), .sh (.int z), .sh (.int w), .sh (itsP m), .sh (.int N), .sh (.int T), .sh (.int K), .sh (.int gap), .sh (.int whole), .sh (.int BI), .sh (.int 0), .ow (.lst []), .un, .un]) (by simp),
    seq_nx (by rw [sFor_ok (xs := m.map itP) (ρ1 := [.sh (itsP l), .sh (.int a), .sh (.int z), .sh (.int w), .sh (itsP m), .sh (.int N), .sh (.int T), .sh (.int K), .sh (.int gap), .sh (.int whole), .sh (.int BI), .sh (.int 0), .ow (.lst []), .un, .un]) (by simp; rfl)]; exact h3)]
  exact ⟨_, by simp [szn (show 3 ≤ 1000000 by omega)]; rfl⟩
/-! ### the last box stands at the width -/
theorem set_place (gap whole : Int) (below : Nat) : ∀ (m : List Item) (p : Int) (f : List RowT), (m.foldl (setStep gap whole below) (p, f)).1 = p + natS m * below + (if 0 < whole then gap * (if 0 < gap then strS m else shrS m) else 0)
  | [], p, f => by simp [natS, strS, shrS]
  | i :: m, p, f => by
    rw [List.foldl_cons]
    cases i with
    | box w t =>
      have e := set_place gap whole below m (p + w * below) (f ++ [((p / gc p below, (below : Int) / gc p below), t)])
      have n : natS (.box w t :: m) = (w : Int) + natS m := by simp [natS, isPen, wd]
      have a : strS (.box w t :: m) = strS m := by simp [strS, isGlue]
      have b : shrS (.box w t :: m) = shrS m := by simp [shrS, isGlue]
      rw [n, a, b, Int.add_mul, ← Int.add_assoc]
      exact e
    | pen w c fl =>
      have e := set_place gap whole below m p f
      have n : natS (.pen w c fl :: m) = natS m := by simp [natS, isPen]
      have a : strS (.pen w c fl :: m) = strS m := by simp [strS, isGlue]
      have b : shrS (.pen w c fl :: m) = shrS m := by simp [shrS, isGlue]
      rw [n, a, b]
      exact e
    | glue w x y =>
      have e := set_place gap whole below m (p + (w * below + if 0 < whole then gap * (if 0 < gap then (x : Int) else y) else 0)) f
      have n : natS (.glue w x y :: m) = (w : Int) + natS m := by simp [natS, isPen, wd]
      have a : strS (.glue w x y :: m) = (x : Int) + strS m := by
        unfold strS
        rw [List.filter_cons_of_pos rfl, List.map_cons, List.sum_cons]
        rfl
      have b : shrS (.glue w x y :: m) = (y : Int) + shrS m := by
        unfold shrS
        rw [List.filter_cons_of_pos rfl, List.map_cons, List.sum_cons]
        rfl
      have es : setStep gap whole below (p, f) (.glue w x y) = (p + (w * below + if 0 < whole then gap * (if 0 < gap then (x : Int) else y) else 0), f) := by
        unfold setStep
        by_cases h2 : 0 < gap <;> simp [h2]
      rw [es, e, n, a, b, Int.add_mul]
      by_cases h : 0 < whole
      · by_cases h2 : 0 < gap
        · simp only [h, h2, if_true, Int.mul_add]; omega
        · simp only [h, h2, if_true, if_false, Int.mul_add]; omega
      · simp only [h, if_false]; omega
theorem place_ok {l m : List Item} (g : Good l) {s e : Nat} {w : Int} (hm : lineOf l s e = some m) (hb : dem l s e w ≠ none) (hc : w ≤ natS m + extW l e ∨ 0 < strS m) :
    (setOf l m e w).1 + extW l e * (belowL l m e w : Nat) = w * (belowL l m e w : Nat) := by
  have ln := lineOf_Ln g hm
  have b2 := str_bd ln
  have b3 := shr_bd ln
  have hd : bad (natS m + extW l e) (strS m) (shrS m) w ≠ none := by
    intro hz
    apply hb
    unfold dem
    rw [hm]
    simp only [hz]
  have hk : ¬ (w - (natS m + extW l e) < 0 ∧ shrS m < -(w - (natS m + extW l e))) := by
    rintro ⟨h1, h2⟩
    apply hd
    unfold bad
    rw [if_neg (by omega), if_neg (by omega), if_pos h2]
  unfold setOf belowL
  rw [set_place]
  generalize hN : natS m = N at *
  generalize extW l e = x at *
  generalize strS m = T at *
  generalize shrS m = K at *
  by_cases g0 : 0 < w - (N + x)
  · have hT : 0 < T := by omega
    have e1 : ((belowOf (wholeOf (w - (N + x)) T K) : Nat) : Int) = T := by simp only [belowOf, wholeOf, g0, hT, if_true]; omega
    have e2 : 0 < wholeOf (w - (N + x)) T K := by simp only [wholeOf, g0, if_true]; exact hT
    rw [e1, if_pos e2, if_pos g0, Int.zero_add, ← Int.add_mul, ← Int.add_mul]
    congr 1
    omega
  · by_cases g1 : w - (N + x) = 0
    · rw [g1]
      have e3 : w = N + x := by omega
      rw [e3]
      simp [Int.add_mul]
    · have hK : 0 < K := by omega
      have e1 : ((belowOf (wholeOf (w - (N + x)) T K) : Nat) : Int) = K := by simp only [belowOf, wholeOf, g0, hK, if_true, if_false]; omega
      have e2 : 0 < wholeOf (w - (N + x)) T K := by simp only [wholeOf, g0, if_false]; exact hK
      rw [e1, if_pos e2, if_neg g0, Int.zero_add, ← Int.add_mul, ← Int.add_mul]
      congr 1
      omega
/-! ### refusals of a width -/
theorem F_set_line_bad {l m : List Item} (g : Good l) {s e : Nat} {w : Int} (hs : From l s) (he : e ∈ brks l) (h : s ≤ e) (hm : lineOf l s e = some m) (w0 : 0 ≤ w) (w1 : w ≤ 100000) (hb : dem l s e w = none) :
    F_set_line [itsP l, .int ((s : Int) - 1), .int (e : Int), .int w] = .exc ⟨"InvalidLength", "what", .str "width"⟩ := by
  have h1 := F_measures_ok g hs he h hm
  have ln := lineOf_Ln g hm
  have b1 := nat_bd ln
  have b2 := str_bd ln
  have b3 := shr_bd ln
  have b4 := ext_bd g e
  have hB := F_badness_ok (n := natS m + extW l e) (st := strS m) (sk := shrS m) (w := w) (by omega) (by omega) (by omega) (by omega) (by omega) (by omega) w0 w1
  have hd : bad (natS m + extW l e) (strS m) (shrS m) w = none := by
    unfold dem at hb
    rw [hm] at hb
    simp only [] at hb
    cases h : bad (natS m + extW l e) (strS m) (shrS m) w with
    | none => rfl
    | some b => rw [h] at hb; cases hb
  rw [hd] at hB
  generalize natS m + extW l e = N at *
  generalize strS m = T at *
  generalize shrS m = K at *
  generalize (s : Int) - 1 = a at *
  generalize (e : Int) = z at *
  have lw : ("width" : Str).length ≤ 1000 := by decide +kernel
  refine run_exc (env := [.sh (itsP l), .sh (.int a), .sh (.int z), .sh (.int w), .un, .un, .un, .un, .un, .un, .un, .un, .un, .un]) (ρ := [.sh (itsP l), .sh (.int a), .sh (.int z), .sh (.int w), .sh (.int N), .sh (.int T), .sh (.int K), .un, .un, .un, .un, .un, .un, .un]) ?_
  unfold den_set_line
  rw [seq_nx (ρ1 := [.sh (itsP l), .sh (.int a), .sh (.int z), .sh (.int w), .sh (.int N), .sh (.int T), .sh (.int K), .un, .un, .un, .un, .un, .un, .un]) (by simp [h1])]
  refine seq_exc ?_
  simp [hB, optI, isN_non, lw]
theorem ref_width {l m : List Item} (g : Good l) {s e : Nat} {w : Int} (hs : From l s) (he : e ∈ brks l) (h : s ≤ e) (hm : lineOf l s e = some m) (w0 : 0 ≤ w) (w1 : w ≤ 100000) (hb : dem l s e w = none) :
    F__law_refusal [.int 0, itsP l, .int ((s : Int) - 1), .int (e : Int), .int w] = .ok (.tup [.str "length", .str "width"]) .non := by
  have h1 := F_set_line_bad g hs he h hm w0 w1 hb
  have t1 : tagOf [(("InvalidLength" : Str), ("length" : Str)), (("InvalidItems" : Str), ("items" : Str))] "InvalidLength" = some "length" := by decide +kernel
  generalize (s : Int) - 1 = a at *
  generalize (e : Int) = z at *
  refine run_rt (env := [.sh (.int 0), .sh (itsP l), .sh (.int a), .sh (.int z), .sh (.int w), .un]) (ρ := [.sh (.int 0), .sh (itsP l), .sh (.int a), .sh (.int z), .sh (.int w), .un]) ?_
  unfold den__law_refusal
  refine seq_rt ?_
  unfold sTryT
  have e1 : sIf (bVal (d2 gEq (dVar 0) (dC (.int 0)))) (sExpr (dCall F_set_line (dCons (dVar 1) (dCons (dVar 2) (dCons (dVar 3) (dCons (dVar 4) dNil)))))) (sExpr (dCall F_set_paragraph (dCons (dVar 1) (dCons (dVar 2) (dCons (dVar 3) dNil))))) [.sh (.int 0), .sh (itsP l), .sh (.int a), .sh (.int z), .sh (.int w), .un] = .exc ⟨"InvalidLength", "what", .str "width"⟩ [.sh (.int 0), .sh (itsP l), .sh (.int a), .sh (.int z), .sh (.int w), .un] := by
    simp [h1]
  rw [e1]
  simp [t1]
end PL.K70

set_option Elab.async false
set_option linter.all false
set_option maxRecDepth 100000
set_option maxHeartbeats 4000000
namespace PL.K70
open PySem PySem.Spec L2 PL
set_option autoImplicit false
/-! ### pairs -/
theorem foldl_snoc {α : Type} : ∀ (l a : List α), l.foldl (fun f e => f ++ [e]) a = a ++ l
  | [], a => by simp
  | x :: l, a => by rw [List.foldl_cons, foldl_snoc l]; simp
def wAt (ws : List Nat) (k : Nat) : Nat := ws.getD (min k (ws.length - 1)) 0
structure Ws (ws : List Nat) : Prop where
  ne : ws ≠ []
  pos : ∀ w ∈ ws, 1 ≤ w
  le : ∀ w ∈ ws, w ≤ 1000
  len : ws.length ≤ 10
theorem wAt_mem {ws : List Nat} (h : Ws ws) (k : Nat) : wAt ws k ∈ ws := by
  unfold wAt
  have h1 : min k (ws.length - 1) < ws.length := by
    have : 0 < ws.length := List.length_pos_iff.mpr h.ne
    omega
  rw [List.getD_eq_getElem?_getD, List.getElem?_eq_getElem h1]
  exact List.getElem_mem h1
theorem ix_ws {ws : List Nat} (h : Ws ws) (k : Nat) : gIx (wsP ws) (.int (min (k : Int) ((ws.length : Int) - 1))) = some (.int (wAt ws k : Nat)) := by
  have h0 : 0 < ws.length := List.length_pos_iff.mpr h.ne
  have h1 : min k (ws.length - 1) < ws.length := by omega
  have e : min (k : Int) ((ws.length : Int) - 1) = ((min k (ws.length - 1) : Nat) : Int) := by omega
  rw [e]
  show atI (ws.map _) _ = _
  rw [atI_nat (by simpa using h1)]
  simp [wAt, List.getD_eq_getElem?_getD, List.getElem?_eq_getElem h1]
theorem min_if (a b : Int) : (if b < a then b else a) = min a b := by split <;> omega
theorem F_width_at_ok {ws : List Nat} (h : Ws ws) (k : Nat) : F_width_at [wsP ws, .int (k : Int)] = .ok (.int (wAt ws k : Nat)) .non := by
  have e := ix_ws h k
  have l : gLenN [wsP ws] = some (.int (ws.length : Nat)) := by simp [wsP]
  rw [← min_if] at e
  generalize (ws.length : Int) = n at *
  generalize (k : Int) = z at *
  refine run_rt (env := [.sh (wsP ws), .sh (.int z)]) (ρ := [.sh (wsP ws), .sh (.int z)]) ?_
  simp [den_width_at, l, e, -ap_lenN]
def keyP (k : Nat × Nat) : PV := .tup [.int (k.1 : Int), .int ((k.2 : Int) - 1)]
def kOf (k : Nat × Nat) : Int × Int := ((k.1 : Int), (k.2 : Int) - 1)
theorem keyP_kOf (k : Nat × Nat) : keyP k = kII (kOf k) := rfl
theorem kEq_P (a b : Nat × Nat) : kEq (keyP a) (keyP b) = decide (a = b) := by
  refine kEq_comp (kP := kII) kEq_II (f := kOf) (fun a b h => ?_) a b
  obtain ⟨a1, a2⟩ := a
  obtain ⟨b1, b2⟩ := b
  simp only [kOf, Prod.mk.injEq] at h ⊢
  omega
theorem good_P (k : Nat × Nat) : kGood true (keyP k) = true := rfl
/-- where lines from the pair lead, with their demerits -/
def nx (l : List Item) (ws : List Nat) (k : Nat × Nat) (es : List Nat) : List (Nat × Int) := es.filterMap fun e => if k.2 ≤ e then (dem l k.2 e (wAt ws k.1)).map fun d => (e, d) else none
def nxP (many : Nat) (x : Nat × Int) : PV := .tup [.tup [.int ((many : Int) + 1), .int (x.1 : Int)], .int x.2]
theorem app_nx {many : Nat} {l : List (Nat × Int)} {x : Nat × Int} (h : l.length ≤ 100000) : gAppend (.lst (l.map (nxP many))) [nxP many x] = some (.lst ((l ++ [x]).map (nxP many)), .non) := by
  rw [ap_app, if_pos (by rw [List.length_map, sizeLine_eq]; omega)]
  simp
theorem nx_len (l : List Item) (ws : List Nat) (k : Nat × Nat) (es : List Nat) : (nx l ws k es).length ≤ es.length := List.length_filterMap_le _ _
theorem next_one {l : List Item} (g : Good l) {ws : List Nat} (hw : Ws ws) (k : Nat × Nat) (e : Nat) (he : e < l.length) (B : PV) (s8 : Sl) (f : List (Nat × Int)) (hf : f.length ≤ 100000) :
    ∃ s8', B_next_pairs_1 [.sh (itsP l), .sh B, .sh (wsP ws), .sh (keyP k), .sh (.int (k.1 : Int)), .sh (.int ((k.2 : Int) - 1)), .ow (.lst (f.map (nxP k.1))), .sh (.int (e : Int)), s8] =
      .nx [.sh (itsP l), .sh B, .sh (wsP ws), .sh (keyP k), .sh (.int (k.1 : Int)), .sh (.int ((k.2 : Int) - 1)), .ow (.lst ((f ++ (if k.2 ≤ e then (dem l k.2 e (wAt ws k.1)).map fun d => (e, d) else none).toList).map (nxP k.1))), .sh (.int (e : Int)), s8'] := by
  have hW := F_width_at_ok hw k.1
  have hm := hw.le _ (wAt_mem hw k.1)
  unfold B_next_pairs_1
  by_cases hs : k.2 ≤ e
  · have hD := F_demerits_ok g (s := k.2) (e := e) (w := (wAt ws k.1 : Nat)) hs he (by omega) (by omega)
    have h1 : (k.2 : Int) - 1 < (e : Int) := by omega
    have e3 : ∀ d : Int, PV.tup [.tup [.int ((k.1 : Int) + 1), .int (e : Int)], .int d] = nxP k.1 (e, d) := fun _ => rfl
    rw [if_pos hs]
    generalize wAt ws k.1 = W at *
    cases hd : dem l k.2 e (W : Nat) with
    | none =>
      rw [hd] at hD
      generalize (k.2 : Int) - 1 = a at *
      generalize (e : Int) = z at *
      generalize (W : Int) = WI at *
      generalize (k.1 : Int) = M at *
      exact ⟨_, by simp [h1, hW, hD, optI, isN_non]; rfl⟩
    | some d =>
      rw [hd] at hD
      have ha := app_nx (many := k.1) (x := (e, d)) hf
      have ht : isT "list" (.lst (f.map (nxP k.1))) = true := rfl
      have e3 := e3 d
      refine ⟨.sh (.int d), ?_⟩
      have e4 : f ++ ((some d).map fun d => (e, d)).toList = f ++ [(e, d)] := rfl
      rw [e4]
      generalize PV.lst (f.map (nxP k.1)) = L at *
      generalize PV.lst ((f ++ [(e, d)]).map (nxP k.1)) = L2 at *
      generalize nxP k.1 (e, d) = q at *
      generalize (k.2 : Int) - 1 = a at *
      generalize (e : Int) = z at *
      generalize (W : Int) = WI at *
      generalize (k.1 : Int) = M at *
      simp [h1, hW, hD, optI, isN_int, ht, szn (show 2 ≤ 1000000 by omega), e3, ha]
  · have h1 : ¬ (k.2 : Int) - 1 < (e : Int) := by omega
    rw [if_neg hs]
    generalize (k.2 : Int) - 1 = a at *
    generalize (e : Int) = z at *
    exact ⟨_, by simp [h1]; rfl⟩
theorem nx_app (l : List Item) (ws : List Nat) (k : Nat × Nat) (es : List Nat) (e : Nat) : nx l ws k (es ++ [e]) = nx l ws k es ++ (if k.2 ≤ e then (dem l k.2 e (wAt ws k.1)).map fun d => (e, d) else none).toList := by
  unfold nx
  rw [List.filterMap_append]
  congr 1
theorem F_next_pairs_ok {l : List Item} (g : Good l) {ws : List Nat} (hw : Ws ws) (k : Nat × Nat) {es : List Nat} (hl : es.length ≤ 1000) (he : ∀ e ∈ es, e < l.length) : F_next_pairs [itsP l, nP es, wsP ws, keyP k] = .ok (.lst ((nx l ws k es).map (nxP k.1))) .non := by
  obtain ⟨ρ, h3, t7, t8, h4⟩ := dLoop_foldP (tgt := gName 7) (body := B_next_pairs_1)
    (fun (f : List Nat) ρ => ∃ s7 s8, ρ = [.sh (itsP l), .sh (nP es), .sh (wsP ws), .sh (keyP k), .sh (.int (k.1 : Int)), .sh (.int ((k.2 : Int) - 1)), .ow (.lst ((nx l ws k f).map (nxP k.1))), s7, s8])
    (fun i : Nat => PV.int (i : Int)) (fun f e => f ++ [e]) [] es
    (fun pre e post ρ e1 hr => by
      obtain ⟨s7, s8, rfl⟩ := hr
      have e2 : pre.foldl (fun f e => f ++ [e]) [] = pre := foldl_snoc pre []
      rw [e2]
      have hpl : pre.length ≤ es.length := by rw [e1]; simp
      have h1 := nx_len l ws k pre
      obtain ⟨t8, hone⟩ := next_one g hw k e (he e (by rw [e1]; simp)) (nP es) s8 (nx l ws k pre) (by omega)
      rw [← nx_app] at hone
      exact ⟨_, _, rfl, .inl hone, _, _, rfl⟩)
    (ρ0 := [.sh (itsP l), .sh (nP es), .sh (wsP ws), .sh (keyP k), .sh (.int (k.1 : Int)), .sh (.int ((k.2 : Int) - 1)), .ow (.lst []), .un, .un]) ⟨_, _, rfl⟩
  have e2 : es.foldl (fun f e => f ++ [e]) [] = es := foldl_snoc es []
  rw [e2] at h4
  subst h4
  refine run_ex (env := [.sh (itsP l), .sh (nP es), .sh (wsP ws), .sh (keyP k), .un, .un, .un, .un, .un]) ?_
  unfold den_next_pairs
  rw [seq_nx (ρ1 := [.sh (itsP l), .sh (nP es), .sh (wsP ws), .sh (keyP k), .sh (.int (k.1 : Int)), .sh (.int ((k.2 : Int) - 1)), .un, .un, .un]) (by simp [keyP]),
    seq_nx (ρ1 := [.sh (itsP l), .sh (nP es), .sh (wsP ws), .sh (keyP k), .sh (.int (k.1 : Int)), .sh (.int ((k.2 : Int) - 1)), .ow (.lst []), .un, .un]) (by simp),
    seq_nx (by rw [sFor_ok (xs := es.map fun i : Nat => PV.int (i : Int)) (ρ1 := [.sh (itsP l), .sh (nP es), .sh (wsP ws), .sh (keyP k), .sh (.int (k.1 : Int)), .sh (.int ((k.2 : Int) - 1)), .ow (.lst []), .un, .un]) (by simp [nP])]; exact h3)]
  exact ⟨_, by simp; rfl⟩
end PL.K70

set_option Elab.async false
set_option linter.all false
set_option maxRecDepth 100000
set_option maxHeartbeats 4000000
namespace PL.K70
open PySem PySem.Spec L2 PL
set_option autoImplicit false
/-! ### lists of breaks that allowed lines make -/
def chain (l : List Item) (ws : List Nat) : Nat → Nat → List Nat → Prop
  | _, _, [] => True
  | k, s, e :: r => s ≤ e ∧ e ∈ brks l ∧ dem l s e (wAt ws k : Nat) ≠ none ∧ chain l ws (k + 1) (e + 1) r
def endF : Nat → List Nat → Nat
  | s, [] => s
  | _, e :: r => endF (e + 1) r
theorem endF_snoc : ∀ (row : List Nat) (s e : Nat), endF s (row ++ [e]) = e + 1
  | [], _, _ => rfl
  | _ :: row, _, e => endF_snoc row _ e
theorem chain_snoc {l : List Item} {ws : List Nat} {e : Nat} : ∀ (row : List Nat) (k s : Nat), chain l ws k s row → endF s row ≤ e → e ∈ brks l → dem l (endF s row) e (wAt ws (k + row.length) : Nat) ≠ none → chain l ws k s (row ++ [e])
  | [], k, s, _, h1, h2, h3 => ⟨h1, h2, h3, trivial⟩
  | x :: row, k, s, h, h1, h2, h3 => by
    obtain ⟨a, b, c, d⟩ := h
    refine ⟨a, b, c, chain_snoc row (k + 1) (x + 1) d h1 h2 ?_⟩
    rw [show k + 1 + row.length = k + (x :: row).length by simp; omega]
    exact h3
theorem chain_le {l : List Item} {ws : List Nat} : ∀ (row : List Nat) (k s : Nat), chain l ws k s row → s ≤ l.length → s + row.length ≤ endF s row ∧ endF s row ≤ l.length
  | [], _, s, _, h => ⟨Nat.le_refl _, h⟩
  | x :: row, k, s, h, hs => by
    obtain ⟨a, b, c, d⟩ := h
    have := brks_lt b
    obtain ⟨h1, h2⟩ := chain_le row (k + 1) (x + 1) d (by omega)
    simp only [List.length_cons, endF]
    omega
abbrev Ent := (Nat × Nat) × (Int × List Nat)
structure EOk (l : List Item) (ws : List Nat) (x : Ent) : Prop where
  many : x.1.1 = x.2.2.length
  fin : x.1.2 = endF 0 x.2.2
  ch : chain l ws 0 0 x.2.2
structure DOk (l : List Item) (ws : List Nat) (D : List Ent) : Prop where
  nd : (D.map (·.1)).Nodup
  all : ∀ x ∈ D, EOk l ws x
theorem DOk.len {l : List Item} {ws : List Nat} {D : List Ent} (h : DOk l ws D) (hl : l.length ≤ 20) : D.length ≤ 441 := by
  have := nodup_map_le (l := D.map (·.1)) (f := fun k => k.1 * 21 + k.2) (n := 441) h.nd (fun x hx y hy e => by
    obtain ⟨x', h1, rfl⟩ := List.mem_map.mp hx
    obtain ⟨y', h2, rfl⟩ := List.mem_map.mp hy
    have a := h.all x' h1
    have b := h.all y' h2
    have a1 := chain_le _ 0 0 a.ch (by omega)
    have b1 := chain_le _ 0 0 b.ch (by omega)
    rw [← a.fin] at a1
    rw [← b.fin] at b1
    have e : x'.1.1 * 21 + x'.1.2 = y'.1.1 * 21 + y'.1.2 := e
    apply Prod.ext <;> omega) (fun x hx => by
    obtain ⟨x', h1, rfl⟩ := List.mem_map.mp hx
    have a := h.all x' h1
    have a1 := chain_le _ 0 0 a.ch (by omega)
    rw [← a.fin, ← a.many] at a1
    show x'.1.1 * 21 + x'.1.2 < 441
    omega)
  simpa using this
theorem DOk.row {l : List Item} {ws : List Nat} {x : Ent} (h : EOk l ws x) (hl : l.length ≤ 20) : x.2.2.length ≤ 20 := by
  have a1 := chain_le _ 0 0 h.ch (by omega)
  omega
theorem DOk.put {l : List Item} {ws : List Nat} {D : List Ent} (h : DOk l ws D) {k : Nat × Nat} {p d : Int} {row : List Nat} {e : Nat} (hk : (k, (p, row)) ∈ D) (h1 : k.2 ≤ e) (h2 : e ∈ brks l) (h3 : dem l k.2 e (wAt ws k.1 : Nat) = some d) : DOk l ws (putA D (k.1 + 1, e + 1) (p + d, row ++ [e])) := by
  refine ⟨putA_nodup h.nd, fun x hx => ?_⟩
  rcases mem_putA hx with rfl | hx
  · have a := h.all _ hk
    have am : k.1 = row.length := a.many
    have af : k.2 = endF 0 row := a.fin
    refine ⟨?_, ?_, ?_⟩
    · show k.1 + 1 = (row ++ [e]).length
      simp; omega
    · show e + 1 = endF 0 (row ++ [e])
      rw [endF_snoc]
    · refine chain_snoc row 0 0 a.ch (by omega) h2 ?_
      rw [← af, Nat.zero_add, ← am, h3]
      intro z; cases z
  · exact h.all x hx
def prP (D : List Ent) : PV := dA true keyP (fun v : Int × List Nat => .int v.1) D
def liP (D : List Ent) : PV := dA true keyP (fun v : Int × List Nat => nP v.2) D
theorem get_pr {D : List Ent} {k : Nat × Nat} {v : Int × List Nat} (h : lookA D k = some v) : gDG (prP D) (keyP k) = some (.int v.1) := by
  unfold prP
  rw [get_A kEq_P k (good_P k), h]
  rfl
theorem get_li {D : List Ent} {k : Nat × Nat} {v : Int × List Nat} (h : lookA D k = some v) : gDG (liP D) (keyP k) = some (nP v.2) := by
  unfold liP
  rw [get_A kEq_P k (good_P k), h]
  rfl
theorem has_pr (n : Bool) (D : List Ent) (k : Nat × Nat) : gDHas n (keyP k) (prP D) = some (.bl (if n then !(lookA D k).isSome else (lookA D k).isSome)) := has_A kEq_P k (good_P k) D n
theorem put_pr {D : List Ent} {k : Nat × Nat} {v : Int × List Nat} : dPutQ (D.map fun kv => keyP kv.1) (D.map fun kv => PV.int kv.2.1) (keyP k) (.int v.1) = ((putA D k v).map (fun kv => keyP kv.1), (putA D k v).map fun kv => PV.int kv.2.1) := put_A (vP := fun v : Int × List Nat => PV.int v.1) kEq_P D k v
theorem put_li {D : List Ent} {k : Nat × Nat} {v : Int × List Nat} : dPutQ (D.map fun kv => keyP kv.1) (D.map fun kv => nP kv.2.2) (keyP k) (nP v.2) = ((putA D k v).map (fun kv => keyP kv.1), (putA D k v).map fun kv => nP kv.2.2) := put_A (vP := fun v : Int × List Nat => nP v.2) kEq_P D k v
theorem nxP_key (m : Nat) (e : Nat) (d : Int) : nxP m (e, d) = .tup [keyP (m + 1, e + 1), .int d] := by
  have e1 : ((m + 1 : Nat) : Int) = (m : Int) + 1 := by omega
  have e2 : ((e + 1 : Nat) : Int) - 1 = (e : Int) := by omega
  simp only [nxP, keyP, e1, e2]
theorem key_1 (k : Nat × Nat) : gIx (keyP k) (.int 1) = some (.int ((k.2 : Int) - 1)) := rfl
abbrev TyR : Ty := .tup [.int, .lst .int]
theorem is_nP {l : List Nat} (h : l.length ≤ 100000) : Is (.lst .int) (nP l) := is_lstF h fun x _ => is_int _
theorem cat_nP {l : List Nat} {e : Nat} (h : l.length ≤ 1000) : gAdd (nP l) (.lst [.int (e : Int)]) = some (nP (l ++ [e])) := by
  show gAdd (.lst _) _ = _
  rw [ap_addL, if_pos (by rw [sizeLine_eq]; simp; omega)]
  simp [nP]
def rcE (l : List Item) (ws : List Nat) (D : List Ent) (s5 s6 s7 s8 s9 : Sl) : Env := [.sh (itsP l), .sh (wsP ws), .sh (nP (brks l)), .ow (prP D), .ow (liP D), s5, s6, s7, s8, s9, .un]
theorem put_two {l : List Item} {ws : List Nat} {D : List Ent} (hD : D.length ≤ 441) (k : Nat × Nat) (v : Int × List Nat) (s5 s6 s8 : Sl) :
    sPut2 3 (dVar 7) 4 (dVar 7) (dVar 9) (rcE l ws D s5 s6 (.sh (keyP k)) s8 (.sh (.tup [.int v.1, nP v.2]))) = .nx (rcE l ws (putA D k v) s5 s6 (.sh (keyP k)) s8 (.sh (.tup [.int v.1, nP v.2]))) := by
  have hz : D.length < 100000 := by omega
  have p1 := put_pr (D := D) (k := k) (v := v)
  have p2 := put_li (D := D) (k := k) (v := v)
  simp [sPut2, rcE, putAt, prP, liP, dA, good_P, hz, p1, p2]
theorem reach_4 {l : List Item} {ws : List Nat} {D : List Ent} (hl : l.length ≤ 20) (h : DOk l ws D) {k : Nat × Nat} {p d : Int} {row : List Nat} {e : Nat} (hk : (k, (p, row)) ∈ D) (h1 : k.2 ≤ e) (h2 : e ∈ brks l) (h3 : dem l k.2 e (wAt ws k.1 : Nat) = some d) (s5 s9 : Sl) :
    ∃ D' s9', B_reached_4 (rcE l ws D s5 (.sh (keyP k)) (.sh (keyP (k.1 + 1, e + 1))) (.sh (.int d)) s9) = .nx (rcE l ws D' s5 (.sh (keyP k)) (.sh (keyP (k.1 + 1, e + 1))) (.sh (.int d)) s9') ∧ DOk l ws D' ∧ ∀ x ∈ D.map (·.1), x ∈ D'.map (·.1) := by
  have hlen := h.len hl
  have hrow := DOk.row (h.all _ hk) hl
  have hrow : row.length ≤ 20 := hrow
  have lk := look_of_mem h.nd hk
  have lk : lookA D k = some (p, row) := lk
  have g1 := get_pr lk
  have g2 := get_li lk
  have c := cat_nP (l := row) (e := e) (by omega)
  have k1 := key_1 (k.1 + 1, e + 1)
  rw [show (((k.1 + 1, e + 1) : Nat × Nat).2 : Int) - 1 = (e : Int) by show ((e + 1 : Nat) : Int) - 1 = _; omega] at k1
  have S1 : sSet 9 (dTup (dCons (dAdd (d2l gDG 3 (dVar 6)) (dVar 8)) (dCons (dAdd (d2l gDG 4 (dVar 6)) (dLst (dCons (d2 gIx (dVar 7) (dC (.int 1))) dNil))) dNil))) (rcE l ws D s5 (.sh (keyP k)) (.sh (keyP (k.1 + 1, e + 1))) (.sh (.int d)) s9) = .nx (rcE l ws D s5 (.sh (keyP k)) (.sh (keyP (k.1 + 1, e + 1))) (.sh (.int d)) (.sh (.tup [.int (p + d), nP (row ++ [e])]))) := by
    generalize (e : Int) = z at *
    simp [rcE, g1, g2, k1, c, szn (show 1 ≤ 1000000 by omega), szn (show 2 ≤ 1000000 by omega)]
  have pt := put_two (l := l) (ws := ws) hlen (k.1 + 1, e + 1) (p + d, row ++ [e]) s5 (.sh (keyP k)) (.sh (.int d))
  have pt : sPut2 3 (dVar 7) 4 (dVar 7) (dVar 9) (rcE l ws D s5 (.sh (keyP k)) (.sh (keyP (k.1 + 1, e + 1))) (.sh (.int d)) (.sh (.tup [.int (p + d), nP (row ++ [e])]))) = _ := pt
  have hs := has_pr true D (k.1 + 1, e + 1)
  have keys : ∀ x ∈ D.map (·.1), x ∈ (putA D (k.1 + 1, e + 1) (p + d, row ++ [e])).map (·.1) := by
    intro x hx
    rw [putA_keys]
    split
    · exact hx
    · exact List.mem_append_left _ hx
  have done : ∃ b, bOr (bVal (d2r (gDHas true) (dVar 7) 3)) (bVal (d2 gLtD (dVar 9) (dTup (dCons (d2l gDG 3 (dVar 7)) (dCons (d2l gDG 4 (dVar 7)) dNil))))) (rcE l ws D s5 (.sh (keyP k)) (.sh (keyP (k.1 + 1, e + 1))) (.sh (.int d)) (.sh (.tup [.int (p + d), nP (row ++ [e])]))) = .ok b (rcE l ws D s5 (.sh (keyP k)) (.sh (keyP (k.1 + 1, e + 1))) (.sh (.int d)) (.sh (.tup [.int (p + d), nP (row ++ [e])]))) := by
    cases hg : lookA D (k.1 + 1, e + 1) with
    | none =>
      rw [hg] at hs
      exact ⟨true, by simp [rcE, hs]⟩
    | some v =>
      rw [hg] at hs
      have g3 := get_pr hg
      have g4 := get_li hg
      have hv := DOk.row (h.all _ (look_mem hg)) hl
      have hv : v.2.length ≤ 20 := hv
      have lt := ltD_is (t := TyR) (by decide) (is_tup2 (is_int (p + d)) (is_nP (l := row ++ [e]) (by simp; omega))) (is_tup2 (is_int v.1) (is_nP (l := v.2) (by omega)))
      exact ⟨_, by simp [rcE, hs, g3, g4, lt, szn (show 2 ≤ 1000000 by omega)]; rfl⟩
  obtain ⟨b, done⟩ := done
  unfold B_reached_4
  rw [seq_nx S1]
  cases b with
  | true => exact ⟨_, _, by rw [sIf_t done, pt], h.put hk h1 h2 h3, keys⟩
  | false => exact ⟨_, _, by rw [sIf_f done]; rfl, h, fun x hx => hx⟩
theorem nx_mem {l : List Item} {ws : List Nat} {k : Nat × Nat} {es : List Nat} {x : Nat × Int} (h : x ∈ nx l ws k es) : x.1 ∈ es ∧ k.2 ≤ x.1 ∧ dem l k.2 x.1 (wAt ws k.1 : Nat) = some x.2 := by
  unfold nx at h
  obtain ⟨e, h1, h2⟩ := List.mem_filterMap.mp h
  split at h2
  · rename_i hs
    cases hd : dem l k.2 e (wAt ws k.1 : Nat) with
    | none => rw [hd] at h2; cases h2
    | some d => rw [hd] at h2; cases h2; exact ⟨h1, hs, hd⟩
  · cases h2
theorem reach_2 {l : List Item} (g : Good l) {ws : List Nat} (hw : Ws ws) {D : List Ent} (hl : l.length ≤ 20) (h : DOk l ws D) {k : Nat × Nat} (hk : k ∈ D.map (·.1)) (s5 s7 s8 s9 : Sl) :
    ∃ D' s7' s8' s9', B_reached_2 (rcE l ws D s5 (.sh (keyP k)) s7 s8 s9) = .nx (rcE l ws D' s5 (.sh (keyP k)) s7' s8' s9') ∧ DOk l ws D' ∧ ∀ x ∈ D.map (·.1), x ∈ D'.map (·.1) := by
  have hN := F_next_pairs_ok g hw k (es := brks l) (by have := brks_len l; omega) fun e he => brks_lt he
  obtain ⟨ρ, h3, D', s7', s8', s9', h4, h5, h6⟩ := dLoop_foldR (tgt := gTup (gsCons (gName 7) (gsCons (gName 8) gsNil))) (body := B_reached_4) (σ := Unit)
    (fun _ ρ => ∃ D' s7 s8 s9, ρ = rcE l ws D' s5 (.sh (keyP k)) s7 s8 s9 ∧ DOk l ws D' ∧ ∀ x ∈ D.map (·.1), x ∈ D'.map (·.1)) (nxP k.1) (fun s _ => s) (nx l ws k (brks l))
    (fun _ x ρ hr hx => by
      obtain ⟨D', s7, s8, s9, rfl, i1, i2⟩ := hr
      obtain ⟨e, d⟩ := x
      obtain ⟨m1, m2, m3⟩ := nx_mem hx
      have hk' := i2 k hk
      obtain ⟨⟨k', p, row⟩, j1, j2⟩ := List.mem_map.mp hk'
      have j2 : k' = k := j2
      subst j2
      obtain ⟨D2, s9', a1, a2, a3⟩ := reach_4 hl i1 j1 m2 m1 m3 s5 s9
      rw [nxP_key]
      exact ⟨_, _, rfl, .inl a1, D2, _, _, s9', rfl, a2, fun x hx => a3 x (i2 x hx)⟩)
    (s0 := ()) (ρ0 := rcE l ws D s5 (.sh (keyP k)) s7 s8 s9) ⟨D, s7, s8, s9, rfl, h, fun x hx => hx⟩
  subst h4
  refine ⟨D', s7', s8', s9', ?_, h5, h6⟩
  unfold B_reached_2
  rw [sFor_ok (xs := (nx l ws k (brks l)).map (nxP k.1)) (ρ1 := rcE l ws D s5 (.sh (keyP k)) s7 s8 s9) (by simp [rcE, hN])]
  exact h3
theorem is_key (k : Nat × Nat) : Is (.tup [.int, .int]) (keyP k) := is_tup2 (is_int _) (is_int _)
theorem sort_keys {α : Type} (f : α → Nat × Nat) (l : List α) (hl : l.length ≤ 1000) : ∃ ks : List PV, gSortD [.lst (l.map fun x => keyP (f x))] = some (.lst ks) ∧ sortOk (l.map fun x => keyP (f x)) = true ∧ ks = (l.map fun x => keyP (f x)).mergeSort pvLe ∧ ks.length = l.length ∧ ∀ q ∈ ks, ∃ x ∈ l, q = keyP (f x) := by
  have hall : ∀ p ∈ l.map fun x => keyP (f x), Is (.tup [.int, .int]) p := fun p hp => by
    obtain ⟨x, _, rfl⟩ := List.mem_map.mp hp
    exact is_key _
  have hlen : (l.map fun x => keyP (f x)).length ≤ 1000000 := by simp; omega
  refine ⟨_, sortD_is (by decide) rfl hall hlen, sortOk_is (by decide) rfl hall hlen, rfl, by rw [List.length_mergeSort]; simp, fun q hq => ?_⟩
  obtain ⟨x, hx, rfl⟩ := List.mem_map.mp (List.mem_mergeSort.mp hq)
  exact ⟨x, hx, rfl⟩
theorem reach_1 {l : List Item} (g : Good l) {ws : List Nat} (hw : Ws ws) {D : List Ent} (hl : l.length ≤ 20) (h : DOk l ws D) (st : Int) (s6 s7 s8 s9 : Sl) :
    ∃ D' s6' s7' s8' s9', B_reached_1 (rcE l ws D (.sh (.int st)) s6 s7 s8 s9) = .nx (rcE l ws D' (.sh (.int st)) s6' s7' s8' s9') ∧ DOk l ws D' ∧ ∀ x ∈ D.map (·.1), x ∈ D'.map (·.1) := by
  have hlen := h.len hl
  have L : dLcDk [10] 3 (gName 10) T_reached_3 E_reached_3 (rcE l ws D (.sh (.int st)) s6 s7 s8 s9) = .ok (.lst ((D.filter fun x => decide ((x.1.2 : Int) - 1 = st)).map fun x => keyP x.1)) (rcE l ws D (.sh (.int st)) s6 s7 s8 s9) :=
    dLcDk_okF (fun x : Ent => keyP x.1) (fun x : Ent => keyP x.1) (fun x => decide ((x.1.2 : Int) - 1 = st)) D rfl rfl (by omega)
      (fun c _ => by
        have k1 := key_1 c.1
        generalize ((c.1.2 : Nat) : Int) - 1 = z at *
        cases s6 <;> cases s7 <;> cases s8 <;> cases s9 <;> simp [T_reached_3, rcE, Sl.lock, k1])
      (fun c _ _ => by cases s6 <;> cases s7 <;> cases s8 <;> cases s9 <;> simp [E_reached_3, rcE, Sl.lock])
  obtain ⟨ks, k1, _, _, _, k2⟩ := sort_keys (fun x : Ent => x.1) (D.filter fun x => decide ((x.1.2 : Int) - 1 = st)) (by have := List.length_filter_le (fun x : Ent => decide ((x.1.2 : Int) - 1 = st)) D; omega)
  obtain ⟨ρ, h3, D', s6', s7', s8', s9', h4, h5, h6⟩ := dLoop_foldR (tgt := gName 6) (body := B_reached_2) (σ := Unit)
    (fun _ ρ => ∃ D' s6 s7 s8 s9, ρ = rcE l ws D' (.sh (.int st)) s6 s7 s8 s9 ∧ DOk l ws D' ∧ ∀ x ∈ D.map (·.1), x ∈ D'.map (·.1)) (fun q : PV => q) (fun s _ => s) ks
    (fun _ q ρ hr hq => by
      obtain ⟨D', s6, s7, s8, s9, rfl, i1, i2⟩ := hr
      obtain ⟨x, hx, rfl⟩ := k2 q hq
      obtain ⟨D2, t7, t8, t9, a1, a2, a3⟩ := reach_2 g hw hl i1 (i2 _ (List.mem_map_of_mem (List.mem_filter.mp hx).1)) (.sh (.int st)) s7 s8 s9
      exact ⟨_, _, rfl, .inl a1, D2, _, t7, t8, t9, rfl, a2, fun x hx => a3 x (i2 x hx)⟩)
    (s0 := ()) (ρ0 := rcE l ws D (.sh (.int st)) s6 s7 s8 s9) ⟨D, s6, s7, s8, s9, rfl, h, fun x hx => hx⟩
  subst h4
  refine ⟨D', s6', s7', s8', s9', ?_, h5, h6⟩
  unfold B_reached_1
  rw [List.map_id'] at h3
  rw [sFor_ok (xs := ks) (ρ1 := rcE l ws D (.sh (.int st)) s6 s7 s8 s9) (by rw [ap_iSeq, ap_dN, ap_dCons, L]; simp [k1])]
  exact h3
theorem F_reached_ok {l : List Item} (g : Good l) {ws : List Nat} (hw : Ws ws) (hl : l.length ≤ 20) : ∃ D, DOk l ws D ∧ F_reached [itsP l, wsP ws] = .ok (.tup [prP D, liP D]) .non := by
  have hA := F_all_breaks_ok l g.len
  have D0 : DOk l ws [((0, 0), (0, []))] := ⟨by simp, fun x hx => by
    rw [List.mem_singleton] at hx
    subst hx
    exact ⟨rfl, rfl, trivial⟩⟩
  have hb := brks_len l
  obtain ⟨ρ, h3, D', s5', s6', s7', s8', s9', h4, h5⟩ := dLoop_foldR (tgt := gName 5) (body := B_reached_1) (σ := Unit)
    (fun _ ρ => ∃ D' s5 s6 s7 s8 s9, ρ = rcE l ws D' s5 s6 s7 s8 s9 ∧ DOk l ws D') (fun i : Int => PV.int i) (fun s _ => s) (-1 :: (brks l).map fun i : Nat => (i : Int))
    (fun _ q ρ hr hq => by
      obtain ⟨D', s5, s6, s7, s8, s9, rfl, i1⟩ := hr
      obtain ⟨D2, t6, t7, t8, t9, a1, a2, _⟩ := reach_1 g hw hl i1 q s6 s7 s8 s9
      exact ⟨_, _, rfl, .inl a1, D2, _, t6, t7, t8, t9, rfl, a2⟩)
    (s0 := ()) (ρ0 := rcE l ws [((0, 0), (0, []))] .un .un .un .un .un) ⟨_, _, _, _, _, _, rfl, D0⟩
  subst h4
  refine ⟨D', h5, run_ex (env := [.sh (itsP l), .sh (wsP ws), .un, .un, .un, .un, .un, .un, .un, .un, .un]) ?_⟩
  unfold den_reached
  have e0 : (PV.tup [.int 0, .int (-1)]) = keyP (0, 0) := rfl
  have S1 : sSetF 3 (dDispT [((dTup (dCons (dC (.int 0)) (dCons (dNeg (dC (.int 1))) dNil))), (dC (.int 0)))]) [.sh (itsP l), .sh (wsP ws), .sh (nP (brks l)), .un, .un, .un, .un, .un, .un, .un, .un] = .nx [.sh (itsP l), .sh (wsP ws), .sh (nP (brks l)), .ow (prP [((0, 0), (0, []))]), .un, .un, .un, .un, .un, .un, .un] := by
    simp [dPairs, lockE, Sl.lock, szn (show 2 ≤ 1000000 by omega), ap_backE, backR, Sl.back, e0, good_P, prP, dA]
  have S2 : sSetF 4 (dDispT [((dTup (dCons (dC (.int 0)) (dCons (dNeg (dC (.int 1))) dNil))), (dLst dNil))]) [.sh (itsP l), .sh (wsP ws), .sh (nP (brks l)), .ow (prP [((0, 0), (0, []))]), .un, .un, .un, .un, .un, .un, .un] = .nx (rcE l ws [((0, 0), (0, []))] .un .un .un .un .un) := by
    simp [dPairs, lockE, Sl.lock, szn (show 2 ≤ 1000000 by omega), ap_backE, backR, Sl.back, e0, good_P, liP, dA, rcE, nP]
  have S3 : sFor (iSeq (dAdd (dLst (dCons (dNeg (dC (.int 1))) dNil)) (dVar 2))) (gName 5) B_reached_1 (rcE l ws [((0, 0), (0, []))] .un .un .un .un .un) = .nx (rcE l ws D' s5' s6' s7' s8' s9') := by
    rw [sFor_ok (xs := (-1 :: (brks l).map fun i : Nat => (i : Int)).map fun i : Int => PV.int i) (ρ1 := rcE l ws [((0, 0), (0, []))] .un .un .un .un .un)]
    · exact h3
    · have hz : 1 + (brks l).length ≤ sizeLine := szn (by omega)
      simp [rcE, nP, szn (show 1 ≤ 1000000 by omega), hz, Function.comp_def]
  rw [seq_nx (ρ1 := [.sh (itsP l), .sh (wsP ws), .sh (nP (brks l)), .un, .un, .un, .un, .un, .un, .un, .un]) (by simp [hA]), seq_nx S1, seq_nx S2, seq_nx S3]
  exact ⟨_, by simp [rcE, szn (show 2 ≤ 1000000 by omega)]; rfl⟩
end PL.K70

set_option Elab.async false
set_option linter.all false
set_option maxRecDepth 100000
set_option maxHeartbeats 4000000
namespace PL.K70
open PySem PySem.Spec L2 PL
set_option autoImplicit false
/-! ### the best breaks -/
structure ROk (l : List Item) (ws : List Nat) (row : List Nat) : Prop where
  ch : chain l ws 0 0 row
  fin : endF 0 row = l.length
  len : row.length ≤ 20
inductive Paper (l : List Item) (ws : List Nat) : PV → Prop
  | stuck (x : PV) : Paper l ws (.tup [.str "stuck", x])
  | breaks (row : List Nat) (x : PV) (h : ROk l ws row) : Paper l ws (.tup [.str "breaks", nP row, x])
theorem len_items (l : List Item) (h : l.length ≤ 400) : gLenN [itsP l] = some (.int (l.length : Nat)) := by simp [itsP]
theorem F_best_breaks_ok {l : List Item} (g : Good l) {ws : List Nat} (hw : Ws ws) (hl : l.length ≤ 20) : ∃ q, Paper l ws q ∧ F_best_breaks [itsP l, wsP ws] = .ok q .non := by
  obtain ⟨D, hD, hR⟩ := F_reached_ok g hw hl
  have hC := F_check_paragraph_ok g hw.ne hw.pos hw.len
  have hlen := hD.len hl
  have hN := len_items l g.len
  have L1 : dLcD [5] 2 (gName 5) T_best_breaks_1 E_best_breaks_1 [.sh (itsP l), .sh (wsP ws), .sh (prP D), .sh (liP D), .un, .un] = .ok (.lst ((D.filter fun x => decide ((x.1.2 : Int) - 1 = (l.length : Int) - 1)).map fun x => .tup [.int x.2.1, nP x.2.2])) [.sh (itsP l), .sh (wsP ws), .sh (prP D), .sh (liP D), .un, .un] :=
    dLcD_okF (fun x : Ent => keyP x.1) (fun x : Ent => .tup [.int x.2.1, nP x.2.2]) (fun x => decide ((x.1.2 : Int) - 1 = (l.length : Int) - 1)) D (ρ1 := [.sh (itsP l), .sh (wsP ws), .sh (prP D), .sh (liP D), .un, .un]) (vs := D.map fun x => .int x.2.1) rfl rfl (by omega)
      (fun c _ => by
        have k1 := key_1 c.1
        generalize ((c.1.2 : Nat) : Int) - 1 = z at *
        generalize (l.length : Int) = n at *
        simp [T_best_breaks_1, Sl.lock, k1, hN, -ap_lenN])
      (fun c hc _ => by
        have lk := look_of_mem hD.nd hc
        have g1 := get_pr lk
        have g2 := get_li lk
        simp [E_best_breaks_1, Sl.lock, g1, g2, szn (show 2 ≤ 1000000 by omega)])
  have hgo : ∀ x ∈ D.filter fun x => decide ((x.1.2 : Int) - 1 = (l.length : Int) - 1), ROk l ws x.2.2 := fun x hx => by
    obtain ⟨h1, h2⟩ := List.mem_filter.mp hx
    have a := hD.all x h1
    have h2 := of_decide_eq_true h2
    exact ⟨a.ch, by have := a.fin; omega, DOk.row a hl⟩
  have S1 : sSeq (sExpr (dCall F_check_paragraph (dCons (dVar 0) (dCons (dVar 1) dNil)))) (sAsg (dCall F_reached (dCons (dVar 0) (dCons (dVar 1) dNil))) (gTup (gsCons (gName 2) (gsCons (gName 3) gsNil)))) [.sh (itsP l), .sh (wsP ws), .un, .un, .un, .un] = .nx [.sh (itsP l), .sh (wsP ws), .sh (prP D), .sh (liP D), .un, .un] := by
    simp [hC, hR]
  have S1a : sExpr (dCall F_check_paragraph (dCons (dVar 0) (dCons (dVar 1) dNil))) [.sh (itsP l), .sh (wsP ws), .un, .un, .un, .un] = .nx [.sh (itsP l), .sh (wsP ws), .un, .un, .un, .un] := by simp [hC]
  rw [seq_nx S1a] at S1
  obtain ⟨ks, _, hso, hks, hkl, hkm⟩ := sort_keys (fun x : Ent => x.1) D (by omega)
  have hSo : dSortDT (dVar 2) [.sh (itsP l), .sh (wsP ws), .sh (prP D), .sh (liP D), .sh (.lst ((D.filter fun x => decide ((x.1.2 : Int) - 1 = (l.length : Int) - 1)).map fun x => .tup [.int x.2.1, nP x.2.2])), .un] = .ok (.lst ks) [.sh (itsP l), .sh (wsP ws), .sh (prP D), .sh (liP D), .sh (.lst ((D.filter fun x => decide ((x.1.2 : Int) - 1 = (l.length : Int) - 1)).map fun x => .tup [.int x.2.1, nP x.2.2])), .un] := by
    simp [prP, dA, hso, hks]
  generalize (D.filter fun x => decide ((x.1.2 : Int) - 1 = (l.length : Int) - 1)) = G at *
  have S2 : sSet 4 (dLcD [5] 2 (gName 5) T_best_breaks_1 E_best_breaks_1) [.sh (itsP l), .sh (wsP ws), .sh (prP D), .sh (liP D), .un, .un] = .nx [.sh (itsP l), .sh (wsP ws), .sh (prP D), .sh (liP D), .sh (.lst (G.map fun x => .tup [.int x.2.1, nP x.2.2])), .un] := by
    rw [sSet_ok L1]; rfl
  cases G with
  | nil =>
    refine ⟨_, .stuck (.tup ks), run_ex (env := [.sh (itsP l), .sh (wsP ws), .un, .un, .un, .un]) ?_⟩
    unfold den_best_breaks
    rw [seq_nx S1a, seq_nx S1, seq_nx S2]
    refine ⟨_, seq_rt (ρ1 := [.sh (itsP l), .sh (wsP ws), .sh (prP D), .sh (liP D), .sh (.lst []), .un]) ?_⟩
    have hSo : dSortDT (dVar 2) [.sh (itsP l), .sh (wsP ws), .sh (prP D), .sh (liP D), .sh (.lst []), .un] = _ := hSo
    simp [tr_nil, hSo, szn (show 2 ≤ 1000000 by omega), -ap_dSortDT]
  | cons x G =>
    have hall : ∀ p ∈ ((x :: G).map fun x : Ent => PV.tup [.int x.2.1, nP x.2.2]), Is TyR p := fun p hp => by
      obtain ⟨y, hy, rfl⟩ := List.mem_map.mp hp
      have := (hgo y hy).len
      exact is_tup2 (is_int _) (is_nP (by omega))
    have hmin := minD_is (t := TyR) (by decide) hall
    obtain ⟨y, hy, hy2⟩ := List.mem_map.mp (show _ ∈ (x :: G).map fun x : Ent => PV.tup [.int x.2.1, nP x.2.2] from minP_mem (G.map fun x : Ent => PV.tup [.int x.2.1, nP x.2.2]) (PV.tup [.int x.2.1, nP x.2.2]))
    rw [← hy2] at hmin
    have L3 := dDc_ok (j := 5) (ke := E_best_breaks_2) (ve := E_best_breaks_3) (di := iSeq (dSortDT (dVar 2))) (ρ := [.sh (itsP l), .sh (wsP ws), .sh (prP D), .sh (liP D), .sh (.lst ((x :: G).map fun x => .tup [.int x.2.1, nP x.2.2])), .un]) (fun q : PV => q) (fun q => q) (fun q => (gDG (prP D) q).getD .non) ks (ρ1 := [.sh (itsP l), .sh (wsP ws), .sh (prP D), .sh (liP D), .sh (.lst ((x :: G).map fun x => .tup [.int x.2.1, nP x.2.2])), .un])
      (by rw [ap_iSeq, hSo, List.map_id']; rfl) rfl (by omega)
      (fun q hq => by
        obtain ⟨y, _, rfl⟩ := hkm q hq
        exact ⟨by simp [E_best_breaks_2, Sl.lock], good_P _⟩)
      (fun q hq => by
        obtain ⟨y, hy, rfl⟩ := hkm q hq
        have g1 := get_pr (look_of_mem hD.nd hy)
        simp [E_best_breaks_3, Sl.lock, g1])
    generalize (ks.foldl (fun kv c => dPutQ kv.1 kv.2 c ((gDG (prP D) c).getD .non)) ([], [])) = kv at *
    refine ⟨_, .breaks y.2.2 (.dic true kv.1 kv.2) (hgo y hy), run_ex (env := [.sh (itsP l), .sh (wsP ws), .un, .un, .un, .un]) ?_⟩
    unfold den_best_breaks
    rw [seq_nx S1a, seq_nx S1, seq_nx S2]
    refine ⟨[.sh (itsP l), .sh (wsP ws), .sh (prP D), .sh (liP D), .sh (.lst ((x :: G).map fun x => .tup [.int x.2.1, nP x.2.2])), .un], ?_⟩
    rw [seq_nx (ρ1 := [.sh (itsP l), .sh (wsP ws), .sh (prP D), .sh (liP D), .sh (.lst ((x :: G).map fun x => .tup [.int x.2.1, nP x.2.2])), .un]) (by simp [tr_cons])]
    refine sRet_ok ?_
    have hmin : gMinD [.lst ((x :: G).map fun x : Ent => PV.tup [.int x.2.1, nP x.2.2])] = _ := hmin
    generalize PV.lst ((x :: G).map fun x : Ent => PV.tup [.int x.2.1, nP x.2.2]) = GP at *
    simp [L3, hmin, at1, szn (show 3 ≤ 1000000 by omega), -ap_dDc, -ap_dSortDT]
/-! ### breakings -/
theorem chain_get {l : List Item} {ws : List Nat} : ∀ (row : List Nat) (k s i : Nat) (h : chain l ws k s row) (hi : i < row.length), endF s (row.take i) ≤ row[i] ∧ row[i] ∈ brks l ∧ dem l (endF s (row.take i)) row[i] (wAt ws (k + i) : Nat) ≠ none
  | e :: row, k, s, 0, h, _ => ⟨h.1, h.2.1, h.2.2.1⟩
  | e :: row, k, s, i + 1, h, hi => by
    have := chain_get row (k + 1) (e + 1) i h.2.2.2 (by simpa using hi)
    rw [show k + 1 + i = k + (i + 1) by omega] at this
    exact this
theorem endF_take {row : List Nat} {i : Nat} (hi : i < row.length) (s : Nat) : endF s (row.take (i + 1)) = row[i] + 1 := by
  rw [List.take_add_one, List.getElem?_eq_getElem hi]
  exact endF_snoc _ _ _
theorem From_take {l : List Item} {ws : List Nat} {row : List Nat} (h : chain l ws 0 0 row) {i : Nat} (hi : i ≤ row.length) : From l (endF 0 (row.take i)) := by
  cases i with
  | zero => exact .inl rfl
  | succ i =>
    have := chain_get row 0 0 i h (by omega)
    rw [endF_take (by omega)]
    exact .inr ⟨by omega, by rw [Nat.add_sub_cancel]; exact this.2.1⟩
theorem chain_asc {l : List Item} {ws : List Nat} : ∀ (row : List Nat) (k s : Nat), chain l ws k s row → row.Pairwise (· < ·) ∧ ∀ e ∈ row, s ≤ e
  | [], _, _, _ => ⟨.nil, fun e h => nomatch h⟩
  | x :: row, k, s, h => by
    obtain ⟨h1, h2⟩ := chain_asc row (k + 1) (x + 1) h.2.2.2
    refine ⟨List.pairwise_cons.mpr ⟨fun e he => by have := h2 e he; omega, h1⟩, fun e he => ?_⟩
    rcases List.mem_cons.mp he with rfl | he
    · exact h.1
    · have := h2 e he; have := h.1; omega
theorem chain_mem {l : List Item} {ws : List Nat} : ∀ (row : List Nat) (k s : Nat), chain l ws k s row → ∀ e ∈ row, e ∈ brks l
  | x :: row, k, s, h, e, he => by
    rcases List.mem_cons.mp he with rfl | he
    · exact h.2.1
    · exact chain_mem row (k + 1) (x + 1) h.2.2.2 e he
theorem ix_nP {row : List Nat} {i : Nat} (h : i < row.length) : gIx (nP row) (.int (i : Int)) = some (.int (row[i] : Nat)) := by
  show atI (row.map _) _ = _
  rw [atI_nat (by simpa using h)]
  simp
theorem ix_nPl {row : List Nat} {e : Nat} : gIx (nP (row ++ [e])) (.int (-1)) = some (.int (e : Int)) := by
  show atI ((row ++ [e]).map fun i : Nat => PV.int (i : Nat)) (-1) = _
  unfold atI ixN
  have e1 : ((row ++ [e]).map fun i : Nat => PV.int (i : Nat)).length = row.length + 1 := by simp
  rw [e1, if_neg (by omega), if_pos (by omega)]
  have e2 : ((-1 : Int) + ((row.length + 1 : Nat) : Int)).toNat = row.length := by omega
  rw [e2]
  simp
theorem snoc_of {α : Type} {l : List α} (h : l ≠ []) : ∃ m x, l = m ++ [x] := ⟨l.dropLast, l.getLast h, (List.dropLast_concat_getLast h).symm⟩
theorem F_is_list_ok {l : List Item} (g : Good l) {ws : List Nat} {row : List Nat} (h : ROk l ws row) : F_is_list_of_breaks [itsP l, nP row] = .ok (.bl true) .non := by
  have hA := F_all_breaks_ok l g.len
  have hN := len_items l g.len
  have hne : row ≠ [] := fun z => by
    have h1 := h.fin
    rw [z] at h1
    obtain ⟨m, e⟩ := g.last
    rw [e] at h1
    simp [endF] at h1
  have hin := fun e => in_brks (neg := true) (l := l) g.len e
  have L1 : dLc [3] (iSeq (dVar 1)) (gName 3) T_is_list_of_breaks_1 E_is_list_of_breaks_1 [.sh (itsP l), .sh (nP row), .sh (nP (brks l)), .un] = .ok (.lst []) [.sh (itsP l), .sh (nP row), .sh (nP (brks l)), .un] := by
    have L := dLc_okF (T := T_is_list_of_breaks_1) (E := E_is_list_of_breaks_1) (i := 3) (di := iSeq (dVar 1)) (ρ := [.sh (itsP l), .sh (nP row), .sh (nP (brks l)), .un]) (fun i : Nat => PV.int (i : Nat)) (fun i : Nat => PV.int (i : Nat)) (fun _ => false) row (by simp [nP]) rfl (by have := h.len; omega)
      (fun c hc => by
        have h1 := hin (c : Int)
        have h5 : ((brks l).any fun x => decide ((x : Int) = (c : Int))) = true := List.any_eq_true.mpr ⟨c, chain_mem row 0 0 h.ch c hc, by simp⟩
        rw [h5] at h1
        generalize (c : Int) = z at *
        simp [T_is_list_of_breaks_1, Sl.lock, h1]) (fun c hc e => nomatch e)
    have e : List.filter (fun _ : Nat => false) row = [] := by simp
    rw [e] at L
    exact L
  have hU : sortU (row.map fun i : Nat => (i : Int)) = row.map fun i : Nat => (i : Int) := by
    refine (sortU_uniq ?_ fun k => Iff.rfl).symm
    refine List.pairwise_map.mpr ((chain_asc row 0 0 h.ch).1.imp fun h => by omega)
  have hI : ints? (row.map fun i : Nat => PV.int (i : Nat)) = some (row.map fun i : Nat => (i : Int)) := ints_mapF _ _
  have hsame : gEq (nP row) (nP row) = some (.bl true) := gEq_same (n := 2) (okD_lst (by have := h.len; simp; omega) (okDs_map fun x _ => okD_int _)) (by omega)
  obtain ⟨m, e, hm⟩ := snoc_of hne
  have hlast : gIx (nP row) (.int (-1)) = some (.int ((l.length : Int) - 1)) := by
    have h1 := h.fin
    rw [hm, endF_snoc] at h1
    have h2 : (l.length : Int) - 1 = (e : Int) := by omega
    rw [hm, ix_nPl, h2]
  refine run_rt (env := [.sh (itsP l), .sh (nP row), .un, .un]) (ρ := [.sh (itsP l), .sh (nP row), .sh (nP (brks l)), .un]) ?_
  have S1 : sIf (bOr (bNot (bTruV 1)) (bOr (bTru (dLc [3] (iSeq (dVar 1)) (gName 3) T_is_list_of_breaks_1 E_is_list_of_breaks_1)) (bVal (d2 gNe (d2 gIx (dVar 1) (dNeg (dC (.int 1)))) (dSub (dN gLenN (dCons (dVar 0) dNil)) (dC (.int 1))))))) (sRet (dC (.bl false))) sNx [.sh (itsP l), .sh (nP row), .sh (nP (brks l)), .un] = .nx [.sh (itsP l), .sh (nP row), .sh (nP (brks l)), .un] := by
    have t1 : truth (nP row) = some true := by cases row with
      | nil => exact absurd rfl hne
      | cons x r => rfl
    generalize (l.length : Int) = n at hlast hN
    simp [L1, t1, tr_nil, hlast, hN, -ap_dLc, -ap_lenN]
  unfold den_is_list_of_breaks
  rw [seq_nx (ρ1 := [.sh (itsP l), .sh (nP row), .sh (nP (brks l)), .un]) (by simp [hA]), seq_nx S1]
  refine sRet_ok ?_
  have hso : dSortSet (dVar 1) [.sh (itsP l), .sh (nP row), .sh (nP (brks l)), .un] = .ok (nP row) [.sh (itsP l), .sh (nP row), .sh (nP (brks l)), .un] := by
    have := h.len
    simp [dSortSet, intsOf, nP, hI, hU, Function.comp_def]
    omega
  have hli : gListOf [nP row] = some (nP row) := rfl
  simp [hso, hli, hsame, -ap_dSortSet]
end PL.K70

set_option Elab.async false
set_option linter.all false
set_option maxRecDepth 100000
set_option maxHeartbeats 4000000
namespace PL.K70
open PySem PySem.Spec L2 PL
set_option autoImplicit false
/-! ### a paragraph, set -/
def stA (row : List Nat) (i : Nat) : Nat := endF 0 (row.take i)
theorem line_some {l : List Item} {s e : Nat} {w : Int} (h : dem l s e w ≠ none) : ∃ m, lineOf l s e = some m := by
  unfold dem at h
  cases hm : lineOf l s e with
  | none => rw [hm] at h; exact absurd rfl h
  | some m => exact ⟨m, rfl⟩
theorem F_total_ok {l : List Item} (g : Good l) {ws : List Nat} (hw : Ws ws) {row : List Nat} (h : ROk l ws row) : ∃ t : Int, F_total_demerits [itsP l, wsP ws, nP row] = .ok (.int t) .non := by
  have hC := F_check_paragraph_ok g hw.ne hw.pos hw.len
  have hI := F_is_list_ok g h
  have hlr := h.len
  have hN : gLenN [nP row] = some (.int (row.length : Nat)) := by simp [nP]
  obtain ⟨ρ, h3, t, s5, s6, h4⟩ := dLoop_inv (tgt := gName 5) (body := B_total_demerits_1) (items := rangeP 0 row.length) (ρ0 := [.sh (itsP l), .sh (wsP ws), .sh (nP row), .sh (.int 0), .sh (.int ((stA row 0 : Int) - 1)), .un, .un])
    (fun i ρ => ∃ (t : Int) (s5 s6 : Sl), ρ = [.sh (itsP l), .sh (wsP ws), .sh (nP row), .sh (.int t), .sh (.int ((stA row i : Int) - 1)), s5, s6])
    (fun i x ρ hx hr => by
      obtain ⟨hi, rfl⟩ := rangeP_get hx
      obtain ⟨t, s5, s6, rfl⟩ := hr
      rw [Int.zero_add]
      obtain ⟨c1, c2, c3⟩ := chain_get row 0 0 i h.ch hi
      rw [Nat.zero_add] at c3
      have hm := hw.le _ (wAt_mem hw i)
      have hD := F_demerits_ok g (s := stA row i) (e := row[i]) (w := (wAt ws i : Nat)) c1 (brks_lt c2) (by omega) (by omega)
      have hW := F_width_at_ok hw i
      have hx := ix_nP hi
      have hst : (stA row (i + 1) : Int) - 1 = (row[i] : Nat) := by unfold stA; rw [endF_take hi]; omega
      cases hd : dem l (stA row i) row[i] (wAt ws i : Nat) with
      | none => exact absurd hd c3
      | some d =>
        rw [hd] at hD
        rw [hst]
        generalize (stA row i : Int) - 1 = a at *
        generalize ((row[i] : Nat) : Int) = z at *
        generalize ((wAt ws i : Nat) : Int) = W at *
        generalize (i : Int) = ii at *
        refine ⟨_, [.sh (itsP l), .sh (wsP ws), .sh (nP row), .sh (.int (t + d)), .sh (.int z), .sh (.int ii), .sh (.int d)], rfl, .inl ?_, _, _, _, rfl⟩
        simp [B_total_demerits_1, hx, hW, hD, optI, isN_int])
    ⟨0, .un, .un, rfl⟩
  subst h4
  refine ⟨t, run_ex (env := [.sh (itsP l), .sh (wsP ws), .sh (nP row), .un, .un, .un, .un]) ?_⟩
  unfold den_total_demerits
  rw [seq_nx (ρ1 := [.sh (itsP l), .sh (wsP ws), .sh (nP row), .un, .un, .un, .un]) (by simp [hC]),
    seq_nx (ρ1 := [.sh (itsP l), .sh (wsP ws), .sh (nP row), .un, .un, .un, .un]) (by simp [hI, tr_bl]),
    seq_nx (ρ1 := [.sh (itsP l), .sh (wsP ws), .sh (nP row), .sh (.int 0), .un, .un, .un]) (by simp),
    seq_nx (ρ1 := [.sh (itsP l), .sh (wsP ws), .sh (nP row), .sh (.int 0), .sh (.int ((stA row 0 : Int) - 1)), .un, .un]) (by simp [stA, endF]),
    seq_nx (by rw [sFor_ok (xs := rangeP 0 row.length) (ρ1 := [.sh (itsP l), .sh (wsP ws), .sh (nP row), .sh (.int 0), .sh (.int ((stA row 0 : Int) - 1)), .un, .un]) (by simp [hN, rg1_nat (show row.length ≤ 1000000000 by omega), -ap_lenN])]; exact h3)]
  exact ⟨_, by simp; rfl⟩
def lnA (l : List Item) (row : List Nat) (i : Nat) : List Item := (lineOf l (stA row i) (row.getD i 0)).getD []
def parA (l : List Item) (ws row : List Nat) (i : Nat) : PV := rwsP (setOf l (lnA l row i) (row.getD i 0) (wAt ws i : Nat)).2
def parP (l : List Item) (ws row : List Nat) (n : Nat) : PV := .lst ((List.range n).map (parA l ws row))
theorem app_par {l : List Item} {ws row : List Nat} {i : Nat} (h : i ≤ 1000) : gAppend (parP l ws row i) [parA l ws row i] = some (parP l ws row (i + 1), .non) := by
  unfold parP
  rw [ap_app, if_pos (by rw [List.length_map, List.length_range, sizeLine_eq]; omega), List.range_succ, List.map_append]
  rfl
theorem F_set_paragraph_ok {l : List Item} (g : Good l) {ws : List Nat} (hw : Ws ws) {row : List Nat} (h : ROk l ws row) : F_set_paragraph [itsP l, wsP ws, nP row] = .ok (parP l ws row row.length) .non := by
  obtain ⟨t, hT⟩ := F_total_ok g hw h
  have hlr := h.len
  have hN : gLenN [nP row] = some (.int (row.length : Nat)) := by simp [nP]
  obtain ⟨ρ, h3, s5, h4⟩ := dLoop_inv (tgt := gName 5) (body := B_set_paragraph_1) (items := rangeP 0 row.length) (ρ0 := [.sh (itsP l), .sh (wsP ws), .sh (nP row), .ow (parP l ws row 0), .sh (.int ((stA row 0 : Int) - 1)), .un])
    (fun i ρ => ∃ (s5 : Sl), ρ = [.sh (itsP l), .sh (wsP ws), .sh (nP row), .ow (parP l ws row i), .sh (.int ((stA row i : Int) - 1)), s5])
    (fun i x ρ hx hr => by
      obtain ⟨hi, rfl⟩ := rangeP_get hx
      obtain ⟨s5, rfl⟩ := hr
      rw [Int.zero_add]
      obtain ⟨c1, c2, c3⟩ := chain_get row 0 0 i h.ch hi
      rw [Nat.zero_add] at c3
      have hm := hw.le _ (wAt_mem hw i)
      obtain ⟨m, hl⟩ := line_some c3
      have hS := F_set_line_ok g (s := stA row i) (e := row[i]) (w := (wAt ws i : Nat)) (From_take h.ch (by omega)) c2 c1 hl (by omega) (by omega) c3
      have hW := F_width_at_ok hw i
      have hx := ix_nP hi
      have hst : (stA row (i + 1) : Int) - 1 = (row[i] : Nat) := by unfold stA; rw [endF_take hi]; omega
      have hp : rwsP (setOf l m row[i] (wAt ws i : Nat)).2 = parA l ws row i := by
        have hl : lineOf l (stA row i) row[i] = some m := hl
        unfold parA lnA
        rw [List.getD_eq_getElem?_getD, List.getElem?_eq_getElem hi]
        simp only [Option.getD_some, hl]
      have ha := app_par (l := l) (ws := ws) (row := row) (i := i) (by omega)
      have ht : isT "list" (parP l ws row i) = true := rfl
      rw [hp] at hS
      rw [hst]
      generalize (stA row i : Int) - 1 = a at *
      generalize ((row[i] : Nat) : Int) = z at *
      generalize ((wAt ws i : Nat) : Int) = W at *
      generalize parA l ws row i = q at *
      generalize parP l ws row i = q1 at *
      generalize parP l ws row (i + 1) = q2 at *
      generalize (i : Int) = ii at *
      refine ⟨_, [.sh (itsP l), .sh (wsP ws), .sh (nP row), .ow q2, .sh (.int z), .sh (.int ii)], rfl, .inl ?_, _, rfl⟩
      simp [B_set_paragraph_1, hx, hW, hS, ha, ht])
    ⟨.un, rfl⟩
  rw [rangeP_len] at h4
  subst h4
  refine run_ex (env := [.sh (itsP l), .sh (wsP ws), .sh (nP row), .un, .un, .un]) ?_
  unfold den_set_paragraph
  rw [seq_nx (ρ1 := [.sh (itsP l), .sh (wsP ws), .sh (nP row), .un, .un, .un]) (by simp [hT, isN_int]),
    seq_nx (ρ1 := [.sh (itsP l), .sh (wsP ws), .sh (nP row), .ow (parP l ws row 0), .un, .un]) (by simp [parP]),
    seq_nx (ρ1 := [.sh (itsP l), .sh (wsP ws), .sh (nP row), .ow (parP l ws row 0), .sh (.int ((stA row 0 : Int) - 1)), .un]) (by simp [stA, endF]),
    seq_nx (by rw [sFor_ok (xs := rangeP 0 row.length) (ρ1 := [.sh (itsP l), .sh (wsP ws), .sh (nP row), .ow (parP l ws row 0), .sh (.int ((stA row 0 : Int) - 1)), .un]) (by simp [hN, rg1_nat (show row.length ≤ 1000000000 by omega), -ap_lenN])]; exact h3)]
  exact ⟨_, by simp; rfl⟩
/-! ### a list that lacks the last break -/
theorem F_is_list_no {l : List Item} (g : Good l) : F_is_list_of_breaks [itsP l, nP (brks l).dropLast] = .ok (.bl false) .non := by
  have hA := F_all_breaks_ok l g.len
  have hN := len_items l g.len
  have hb := brks_len l
  have hg := g.len
  have hin := fun e => in_brks (neg := true) (l := l) g.len e
  have L1 : dLc [3] (iSeq (dVar 1)) (gName 3) T_is_list_of_breaks_1 E_is_list_of_breaks_1 [.sh (itsP l), .sh (nP (brks l).dropLast), .sh (nP (brks l)), .un] = .ok (.lst []) [.sh (itsP l), .sh (nP (brks l).dropLast), .sh (nP (brks l)), .un] := by
    have L := dLc_okF (T := T_is_list_of_breaks_1) (E := E_is_list_of_breaks_1) (i := 3) (di := iSeq (dVar 1)) (ρ := [.sh (itsP l), .sh (nP (brks l).dropLast), .sh (nP (brks l)), .un]) (fun i : Nat => PV.int (i : Nat)) (fun i : Nat => PV.int (i : Nat)) (fun _ => false) (brks l).dropLast (by simp [nP]) rfl (by simp; omega)
      (fun c hc => by
        have h1 := hin (c : Int)
        have h5 : ((brks l).any fun x => decide ((x : Int) = (c : Int))) = true := List.any_eq_true.mpr ⟨c, (List.dropLast_sublist _).subset hc, by simp⟩
        rw [h5] at h1
        generalize (c : Int) = z at *
        simp [T_is_list_of_breaks_1, Sl.lock, h1]) (fun c hc e => nomatch e)
    have e : List.filter (fun _ : Nat => false) (brks l).dropLast = [] := by simp
    rw [e] at L
    exact L
  have hlt : ∀ e ∈ (brks l).dropLast, (e : Int) ≠ (l.length : Int) - 1 := by
    intro e he
    have e1 : (brks l) = (List.range (l.length - 1)).filter (brk l) ++ (if brk l (l.length - 1) then [l.length - 1] else []) := by
      obtain ⟨m, hm⟩ := g.last
      have e2 : l.length = (l.length - 1) + 1 := by rw [hm]; simp
      have := brksN_succ l (l.length - 1)
      rw [← e2] at this
      exact this
    have hl : brk l (l.length - 1) = true := by
      obtain ⟨m, hm⟩ := g.last
      unfold brk
      rw [hm]
      simp
    rw [hl, if_pos rfl] at e1
    rw [e1, List.dropLast_concat] at he
    have := List.mem_range.mp (List.mem_filter.mp he).1
    omega
  refine run_ex (env := [.sh (itsP l), .sh (nP (brks l).dropLast), .un, .un]) ?_
  unfold den_is_list_of_breaks
  rw [seq_nx (ρ1 := [.sh (itsP l), .sh (nP (brks l).dropLast), .sh (nP (brks l)), .un]) (by simp [hA])]
  generalize (l.length : Int) = n at hlt hN
  by_cases hne : (brks l).dropLast = []
  · rw [hne] at L1 ⊢
    have t1 : truth (nP []) = some false := rfl
    exact ⟨_, seq_rt (ρ1 := [.sh (itsP l), .sh (nP []), .sh (nP (brks l)), .un]) (by simp [t1])⟩
  · obtain ⟨m, e, hm⟩ := snoc_of hne
    rw [hm] at L1 hlt ⊢
    have t1 : truth (nP (m ++ [e])) = some true := by cases m <;> rfl
    have hl := ix_nPl (row := m) (e := e)
    have hlt := hlt e (by simp)
    generalize (e : Int) = z at *
    generalize nP (m ++ [e]) = R at *
    exact ⟨_, seq_rt (ρ1 := [.sh (itsP l), .sh R, .sh (nP (brks l)), .un]) (by simp [L1, t1, tr_nil, hl, hlt, hN, -ap_dLc, -ap_lenN])⟩
theorem F_set_paragraph_no {l : List Item} (g : Good l) {ws : List Nat} (hw : Ws ws) : F_set_paragraph [itsP l, wsP ws, nP (brks l).dropLast] = .exc ⟨"InvalidItems", "what", .str "breaks"⟩ := by
  have hC := F_check_paragraph_ok g hw.ne hw.pos hw.len
  have hI := F_is_list_no g
  have hT : F_total_demerits [itsP l, wsP ws, nP (brks l).dropLast] = .ok .non .non := by
    refine run_ex (env := [.sh (itsP l), .sh (wsP ws), .sh (nP (brks l).dropLast), .un, .un, .un, .un]) ?_
    unfold den_total_demerits
    rw [seq_nx (ρ1 := [.sh (itsP l), .sh (wsP ws), .sh (nP (brks l).dropLast), .un, .un, .un, .un]) (by simp [hC])]
    exact ⟨_, seq_rt (ρ1 := [.sh (itsP l), .sh (wsP ws), .sh (nP (brks l).dropLast), .un, .un, .un, .un]) (by simp [hI, tr_bl])⟩
  have lw : ("breaks" : Str).length ≤ 1000 := by decide +kernel
  refine run_exc (env := [.sh (itsP l), .sh (wsP ws), .sh (nP (brks l).dropLast), .un, .un, .un]) (ρ := [.sh (itsP l), .sh (wsP ws), .sh (nP (brks l).dropLast), .un, .un, .un]) ?_
  unfold den_set_paragraph
  exact seq_exc (by simp [hT, isN_non, lw])
theorem ref_breaks {l : List Item} (g : Good l) {ws : List Nat} (hw : Ws ws) : F__law_refusal [.int 1, itsP l, wsP ws, nP (brks l).dropLast, .non] = .ok (.tup [.str "items", .str "breaks"]) .non := by
  have h1 := F_set_paragraph_no g hw
  have t1 : tagOf [(("InvalidLength" : Str), ("length" : Str)), (("InvalidItems" : Str), ("items" : Str))] "InvalidItems" = some "items" := by decide +kernel
  refine run_rt (env := [.sh (.int 1), .sh (itsP l), .sh (wsP ws), .sh (nP (brks l).dropLast), .sh .non, .un]) (ρ := [.sh (.int 1), .sh (itsP l), .sh (wsP ws), .sh (nP (brks l).dropLast), .sh .non, .un]) ?_
  unfold den__law_refusal
  refine seq_rt ?_
  unfold sTryT
  have e1 : sIf (bVal (d2 gEq (dVar 0) (dC (.int 0)))) (sExpr (dCall F_set_line (dCons (dVar 1) (dCons (dVar 2) (dCons (dVar 3) (dCons (dVar 4) dNil)))))) (sExpr (dCall F_set_paragraph (dCons (dVar 1) (dCons (dVar 2) (dCons (dVar 3) dNil))))) [.sh (.int 1), .sh (itsP l), .sh (wsP ws), .sh (nP (brks l).dropLast), .sh .non, .un] = .exc ⟨"InvalidItems", "what", .str "breaks"⟩ [.sh (.int 1), .sh (itsP l), .sh (wsP ws), .sh (nP (brks l).dropLast), .sh .non, .un] := by
    simp [h1]
  rw [e1]
  simp [t1]
theorem cut_last {α : Type} (l : List α) : cutP l none (some (-1)) = l.dropLast := by
  unfold cutP HT.sIx
  rw [List.dropLast_eq_take]
  simp
  congr 1
  omega
end PL.K70

set_option Elab.async false
set_option linter.all false
set_option maxRecDepth 100000
set_option maxHeartbeats 4000000
namespace PL.K70
open PySem PySem.Spec L2 PL
set_option autoImplicit false
/-! ### drawn items -/
theorem dig (k : Nat) (hk : k < 13) : ∃ t t' : Str, gIx (.str "0123456789") (.int ((k : Int) % 10)) = some (.str t) ∧ gAdd (.str "b") (.str t) = some (.str t') ∧ PyData.canLay0 (.str t') = true := by
  have h : k = 0 ∨ k = 1 ∨ k = 2 ∨ k = 3 ∨ k = 4 ∨ k = 5 ∨ k = 6 ∨ k = 7 ∨ k = 8 ∨ k = 9 ∨ k = 10 ∨ k = 11 ∨ k = 12 := by omega
  rcases h with rfl | rfl | rfl | rfl | rfl | rfl | rfl | rfl | rfl | rfl | rfl | rfl | rfl
  · exact ⟨"0", "b0", by kernel_rfl, by kernel_rfl, by decide +kernel⟩
  · exact ⟨"1", "b1", by kernel_rfl, by kernel_rfl, by decide +kernel⟩
  · exact ⟨"2", "b2", by kernel_rfl, by kernel_rfl, by decide +kernel⟩
  · exact ⟨"3", "b3", by kernel_rfl, by kernel_rfl, by decide +kernel⟩
  · exact ⟨"4", "b4", by kernel_rfl, by kernel_rfl, by decide +kernel⟩
  · exact ⟨"5", "b5", by kernel_rfl, by kernel_rfl, by decide +kernel⟩
  · exact ⟨"6", "b6", by kernel_rfl, by kernel_rfl, by decide +kernel⟩
  · exact ⟨"7", "b7", by kernel_rfl, by kernel_rfl, by decide +kernel⟩
  · exact ⟨"8", "b8", by kernel_rfl, by kernel_rfl, by decide +kernel⟩
  · exact ⟨"9", "b9", by kernel_rfl, by kernel_rfl, by decide +kernel⟩
  · exact ⟨"0", "b0", by kernel_rfl, by kernel_rfl, by decide +kernel⟩
  · exact ⟨"1", "b1", by kernel_rfl, by kernel_rfl, by decide +kernel⟩
  · exact ⟨"2", "b2", by kernel_rfl, by kernel_rfl, by decide +kernel⟩
theorem costs (k : Nat) (hk : k < 6) : ∃ c : Int, -10000 ≤ c ∧ c ≤ 10000 ∧ gIx (.lst [.int 0, .int 50, .int (-50), .int 10000, .int (-10000), .int 300]) (.int (k : Int)) = some (.int c) := by
  have h : k = 0 ∨ k = 1 ∨ k = 2 ∨ k = 3 ∨ k = 4 ∨ k = 5 := by omega
  rcases h with rfl | rfl | rfl | rfl | rfl | rfl
  · exact ⟨0, by omega, by omega, by kernel_rfl⟩
  · exact ⟨50, by omega, by omega, by kernel_rfl⟩
  · exact ⟨-50, by omega, by omega, by kernel_rfl⟩
  · exact ⟨10000, by omega, by omega, by kernel_rfl⟩
  · exact ⟨-10000, by omega, by omega, by kernel_rfl⟩
  · exact ⟨300, by omega, by omega, by kernel_rfl⟩
structure Its (l : List Item) : Prop where
  ok : ∀ i ∈ l, i.ok
  sm : ∀ i ∈ l, i.sm
  tx : ∀ i ∈ l, i.tx
theorem Its.snoc {l : List Item} {i : Item} (h : Its l) (h1 : i.ok) (h2 : i.sm) (h3 : i.tx) : Its (l ++ [i]) :=
  ⟨fun j hj => (List.mem_append.mp hj).elim (h.ok j) fun z => by rw [List.mem_singleton.mp z]; exact h1,
   fun j hj => (List.mem_append.mp hj).elim (h.sm j) fun z => by rw [List.mem_singleton.mp z]; exact h2,
   fun j hj => (List.mem_append.mp hj).elim (h.tx j) fun z => by rw [List.mem_singleton.mp z]; exact h3⟩
def liE (ds : List Int) (l : List Item) (s3 s4 s5 s6 : Sl) : Env := [.io (dk ds), .sh (.int 12), .ow (itsP l), s3, s4, s5, s6]
theorem items_one (ds : List Int) (l : List Item) (h : Its l) (hl : l.length ≤ 1000) (k : Nat) (hk : k < 13) (s4 s5 s6 : Sl) :
    ∃ ds' i s4' s5' s6', B__law_items_1 (liE ds l (.sh (.int (k : Int))) s4 s5 s6) = .nx (liE ds' (l ++ [i]) (.sh (.int (k : Int))) s4' s5' s6') ∧ Its (l ++ [i]) := by
  have ht : isT "list" (itsP l) = true := rfl
  obtain ⟨v, d1, hv, e1⟩ := take_nat ds 8 (by omega)
  have S1 : sSet 4 (dCallIo F__law_take 0 (dCons (dC (.int 8)) dNil)) (liE ds l (.sh (.int (k : Int))) s4 s5 s6) = .nx (liE d1 l (.sh (.int (k : Int))) (.sh (.int (v : Int))) s5 s6) := by
    have e1 : F__law_take [dk ds, .int 8] = _ := e1
    generalize (k : Int) = kk at *
    simp [liE, e1]
  unfold B__law_items_1
  rw [seq_nx S1]
  by_cases c1 : v < 4
  · obtain ⟨w, x2, hw, e2⟩ := take_nat d1 7 (by omega)
    obtain ⟨t, t', g1, g2, g3⟩ := dig k hk
    have ha := app_item (l := l) (x := .box w t') (by omega)
    refine ⟨x2, .box w t', .sh (.int (v : Int)), s5, s6, ?_, h.snoc trivial (show w ≤ 100 by omega) g3⟩
    have e2 : F__law_take [dk d1, .int 7] = _ := e2
    have ha : gAppend (itsP l) [.tup [.str "box", .int (w : Int), .str t']] = _ := ha
    have hc : (v : Int) < 4 := by omega
    generalize (k : Int) = kk at *
    generalize (v : Int) = vv at *
    generalize (w : Int) = ww at *
    rw [sIf_t (ρ1 := liE d1 l (.sh (.int kk)) (.sh (.int vv)) s5 s6) (by simp [liE, hc])]
    simp [liE, ht, e2, g1, g2, ha, szn (show 3 ≤ 1000000 by omega), -ap_ixS, -ap_addS]
  · have hc : ¬ (v : Int) < 4 := by omega
    by_cases c2 : v < 7
    · obtain ⟨w, x2, hw, e2⟩ := take_nat d1 4 (by omega)
      obtain ⟨p, x3, hp, e3⟩ := take_nat x2 4 (by omega)
      obtain ⟨q, x4, hq, e4⟩ := take_nat x3 (w + 1) (by omega)
      have ha := app_item (l := l) (x := .glue w p q) (by omega)
      refine ⟨x4, .glue w p q, .sh (.int (v : Int)), .sh (.int (w : Int)), s6, ?_, h.snoc (show q ≤ w by omega) (show w ≤ 100 ∧ p ≤ 100 ∧ q ≤ 100 by omega) trivial⟩
      have e2 : F__law_take [dk d1, .int 4] = _ := e2
      have e3 : F__law_take [dk x2, .int 4] = _ := e3
      have e4 : F__law_take [dk x3, .int ((w : Int) + 1)] = _ := e4
      have ha : gAppend (itsP l) [.tup [.str "glue", .int (w : Int), .int (p : Int), .int (q : Int)]] = _ := ha
      have hc2 : (v : Int) < 7 := by omega
      generalize (k : Int) = kk at *
      generalize (v : Int) = vv at *
      generalize (w : Int) = ww at *
      generalize (p : Int) = pp at *
      generalize (q : Int) = qq at *
      rw [sIf_f (ρ1 := liE d1 l (.sh (.int kk)) (.sh (.int vv)) s5 s6) (by simp [liE, hc]), sIf_t (ρ1 := liE d1 l (.sh (.int kk)) (.sh (.int vv)) s5 s6) (by simp [liE, hc2])]
      rw [seq_nx (ρ1 := liE x2 l (.sh (.int kk)) (.sh (.int vv)) (.sh (.int ww)) s6) (by simp [liE, e2])]
      simp [liE, ht, e3, e4, ha, szn (show 4 ≤ 1000000 by omega)]
    · have hc2 : ¬ (v : Int) < 7 := by omega
      obtain ⟨w, x2, hw, e2⟩ := take_nat d1 6 (by omega)
      obtain ⟨c, h1, h2, h3⟩ := costs w hw
      obtain ⟨p, x3, hp, e3⟩ := take_nat x2 3 (by omega)
      obtain ⟨q, x4, hq, e4⟩ := take_nat x3 2 (by omega)
      have ha := app_item (l := l) (x := .pen p c (decide ((q : Int) = 0))) (by omega)
      refine ⟨x4, .pen p c (decide ((q : Int) = 0)), .sh (.int (v : Int)), s5, .sh (.int c), ?_, h.snoc ⟨h1, h2⟩ (show p ≤ 100 by omega) trivial⟩
      have e2 : F__law_take [dk d1, .int 6] = _ := e2
      have e3 : F__law_take [dk x2, .int 3] = _ := e3
      have e4 : F__law_take [dk x3, .int 2] = _ := e4
      have ha : gAppend (itsP l) [.tup [.str "penalty", .int (p : Int), .int c, .bl (decide ((q : Int) = 0))]] = _ := ha
      generalize (k : Int) = kk at *
      generalize (v : Int) = vv at *
      generalize (w : Int) = ww at *
      generalize (p : Int) = pp at *
      generalize (q : Int) = qq at *
      rw [sIf_f (ρ1 := liE d1 l (.sh (.int kk)) (.sh (.int vv)) s5 s6) (by simp [liE, hc]), sIf_f (ρ1 := liE d1 l (.sh (.int kk)) (.sh (.int vv)) s5 s6) (by simp [liE, hc2])]
      rw [seq_nx (ρ1 := liE x2 l (.sh (.int kk)) (.sh (.int vv)) s5 (.sh (.int c))) (by simp [liE, e2, h3, szn (show 6 ≤ 1000000 by omega), -ap_ixL])]
      simp [liE, ht, e3, e4, ha, szn (show 4 ≤ 1000000 by omega)]
theorem itsP_last (l : List Item) (i : Item) : gCat (itsP l) (.lst [itP i]) = if l.length + 1 ≤ sizeLine then some (itsP (l ++ [i])) else none := by
  unfold itsP
  rw [ap_cat]
  simp
theorem F__law_items_ok (ds : List Int) : ∃ ds' l, F__law_items [dk ds, .int 12] = .ok (itsP l) (dk ds') ∧ Good l ∧ l.length ≤ 20 := by
  obtain ⟨w, d1, hw, e1⟩ := take_nat ds 6 (by omega)
  obtain ⟨n, x2, hn, e2⟩ := take_nat d1 12 (by omega)
  have e1 : F__law_take [dk ds, .int 6] = _ := e1
  have e2 : F__law_take [dk d1, .int 12] = _ := e2
  have h0 : Its [.box w "b0"] := by
    refine ⟨fun i hi => ?_, fun i hi => ?_, fun i hi => ?_⟩
    · rw [List.mem_singleton.mp hi]; trivial
    · rw [List.mem_singleton.mp hi]; show w ≤ 100; omega
    · rw [List.mem_singleton.mp hi]; show PyData.canLay0 (.str "b0") = true; decide +kernel
  obtain ⟨ρ, h3, x3, l, s3, s4, s5, s6, h4, h5, h6, h7⟩ := dLoop_inv (tgt := gName 3) (body := B__law_items_1) (items := rangeP 1 n) (ρ0 := liE x2 [.box w "b0"] .un .un .un .un)
    (fun i ρ => ∃ ds l s3 s4 s5 s6, ρ = liE ds l s3 s4 s5 s6 ∧ Its l ∧ l.length = i + 1 ∧ ∃ x ∈ l, isBox x = true)
    (fun i x ρ hx hr => by
      obtain ⟨hi, rfl⟩ := rangeP_get hx
      obtain ⟨ds, l, s3, s4, s5, s6, rfl, j1, j2, y, j3, j4⟩ := hr
      obtain ⟨ds', it, t4, t5, t6, k1, k2⟩ := items_one ds l j1 (by omega) (i + 1) (by omega) s4 s5 s6
      have ec : ((i + 1 : Nat) : Int) = 1 + (i : Int) := by omega
      rw [ec] at k1
      exact ⟨_, _, rfl, .inl k1, ds', l ++ [it], _, t4, t5, t6, rfl, k2, by simp [j2], y, List.mem_append_left _ j3, j4⟩)
    ⟨_, _, _, _, _, _, rfl, h0, rfl, .box w "b0", List.mem_cons_self, rfl⟩
  subst h4
  rw [rangeP_len] at h6
  obtain ⟨z, x4, hz, e4⟩ := take_nat x3 3 (by omega)
  have e4 : F__law_take [dk x3, .int 3] = _ := e4
  have S1 : sSetF 2 (dLst (dCons (dTup (dCons (dC (.str ("box" : Str))) (dCons (dCallIo F__law_take 0 (dCons (dC (.int 6)) dNil)) (dCons (dC (.str ("b0" : Str))) dNil)))) dNil)) [.io (dk ds), .sh (.int 12), .un, .un, .un, .un, .un] = .nx (.io (dk d1) :: .sh (.int 12) :: .ow (itsP [.box w "b0"]) :: [.un, .un, .un, .un]) := by
    have eb : itsP [.box w "b0"] = .lst [.tup [.str "box", .int (w : Int), .str "b0"]] := rfl
    rw [eb]
    generalize (w : Int) = ww at *
    simp [e1, szn (show 1 ≤ 1000000 by omega), szn (show 3 ≤ 1000000 by omega)]
  have S2 : sFor (iR2 (dCons (dC (.int 1)) (dCons (dAdd (dC (.int 1)) (dCallIo F__law_take 0 (dCons (dVar 1) dNil))) dNil))) (gName 3) B__law_items_1 (.io (dk d1) :: .sh (.int 12) :: .ow (itsP [.box w "b0"]) :: [.un, .un, .un, .un]) = .nx (liE x3 l s3 s4 s5 s6) := by
    rw [sFor_ok (xs := rangeP 1 n) (ρ1 := liE x2 [.box w "b0"] .un .un .un .un)]
    · exact h3
    · have hr := rg2_ok (ρ := liE x2 [.box w "b0"] .un .un .un .un) (i := 1) (j := 1 + (n : Int)) (by omega) (by omega) (by omega) (by omega)
      have hn2 : (1 + (n : Int) - 1).toNat = n := by omega
      rw [hn2] at hr
      generalize (n : Int) = nn at *
      simp [e2]
      exact hr
  -- the tail, when there is one
  have hlast : ∀ m : List Item, Its m → (∃ x ∈ m, isBox x = true) → m.length ≤ 14 → Good (m ++ [.pen 0 (-10000) false]) ∧ (m ++ [Item.pen 0 (-10000) false]).length ≤ 20 := by
    intro m hm hb hl
    have h8 := hm.snoc (i := .pen 0 (-10000) false) (show -10000 ≤ (-10000 : Int) ∧ (-10000 : Int) ≤ 10000 by omega) (show 0 ≤ 100 by omega) trivial
    obtain ⟨x, x1, x2⟩ := hb
    exact ⟨⟨h8.ok, by simp; omega, ⟨m, rfl⟩, ⟨x, List.mem_append_left _ x1, x2⟩, h8.sm, h8.tx⟩, by simp; omega⟩
  have S4 : ∀ (m : List Item) (ds : List Int) (s3 s4 s5 s6 : Sl), m.length ≤ 14 → (sRet (dAdd (dVar 2) (dLst (dCons (dTup (dCons (dC (.str ("penalty" : Str))) (dCons (dC (.int 0)) (dCons (dNeg (dC (.int 10000))) (dCons (dC (.bl false)) dNil))))) dNil)))) (liE ds m s3 s4 s5 s6) = .rt (itsP (m ++ [.pen 0 (-10000) false])) (.io (dk ds) :: .sh (.int 12) :: .sh (itsP m) :: [s3, s4, s5, s6]) := by
    intro m ds s3 s4 s5 s6 hm
    have ha : gAdd (itsP m) (.lst [.tup [.str "penalty", .int 0, .int (-10000), .bl false]]) = some (itsP (m ++ [.pen 0 (-10000) false])) := by
      unfold itsP
      rw [ap_addL, if_pos (by rw [sizeLine_eq]; simp; omega)]
      simp [itP]
    simp [liE, ha, szn (show 1 ≤ 1000000 by omega), szn (show 4 ≤ 1000000 by omega)]
  have hl15 : l.length ≤ 12 := by omega
  by_cases c : 0 < z
  · have hc : (0 : Int) < (z : Int) := by omega
    let m := l ++ [Item.pen 0 10000 false, Item.glue 0 40 0]
    have hm : Its m := by
      have a1 := (h5.snoc (i := .pen 0 10000 false) (show -10000 ≤ (10000 : Int) ∧ (10000 : Int) ≤ 10000 by omega) (show 0 ≤ 100 by omega) trivial).snoc (i := .glue 0 40 0) (show 0 ≤ 0 by omega) (show 0 ≤ 100 ∧ 40 ≤ 100 ∧ 0 ≤ 100 by omega) trivial
      rw [List.append_assoc] at a1
      exact a1
    have hbm : ∃ x ∈ m, isBox x = true := by obtain ⟨x, x1, x2⟩ := h7; exact ⟨x, List.mem_append_left _ x1, x2⟩
    have hml : m.length ≤ 14 := by show (l ++ [Item.pen 0 10000 false, Item.glue 0 40 0]).length ≤ 14; simp; omega
    obtain ⟨g1, g2⟩ := hlast m hm hbm hml
    refine ⟨x4, _, ?_, g1, g2⟩
    refine run_io (env := [.io (dk ds), .sh (.int 12), .un, .un, .un, .un, .un]) (ρ := .sh (.int 12) :: .sh (itsP m) :: [s3, s4, s5, s6]) ?_
    have S3 : sIf (bVal (d2 gGt (dCallIo F__law_take 0 (dCons (dC (.int 3)) dNil)) (dC (.int 0)))) (sSetF 2 (d2 gCat (dVar 2) (dLst (dCons (dTup (dCons (dC (.str ("penalty" : Str))) (dCons (dC (.int 0)) (dCons (dC (.int 10000)) (dCons (dC (.bl false)) dNil))))) (dCons (dTup (dCons (dC (.str ("glue" : Str))) (dCons (dC (.int 0)) (dCons (dC (.int 40)) (dCons (dC (.int 0)) dNil))))) dNil))))) sNx (liE x3 l s3 s4 s5 s6) = .nx (liE x4 m s3 s4 s5 s6) := by
      rw [sIf_t (ρ1 := liE x4 l s3 s4 s5 s6) (by simp [liE, e4]; omega)]
      have ha : gCat (itsP l) (.lst [.tup [.str "penalty", .int 0, .int 10000, .bl false], .tup [.str "glue", .int 0, .int 40, .int 0]]) = some (itsP m) := by
        show gCat (.lst _) _ = _
        rw [ap_cat, if_pos (by rw [sizeLine_eq]; simp; omega)]
        show _ = some (itsP (l ++ _))
        simp [itP, itsP]
      simp [liE, ha, szn (show 2 ≤ 1000000 by omega), szn (show 4 ≤ 1000000 by omega)]
    unfold den__law_items
    rw [seq_nx S1, seq_nx S2, seq_nx S3, S4 m x4 s3 s4 s5 s6 hml]
  · have hc : ¬ (0 : Int) < (z : Int) := by omega
    obtain ⟨g1, g2⟩ := hlast l h5 h7 (by omega)
    refine ⟨x4, _, ?_, g1, g2⟩
    refine run_io (env := [.io (dk ds), .sh (.int 12), .un, .un, .un, .un, .un]) (ρ := .sh (.int 12) :: .sh (itsP l) :: [s3, s4, s5, s6]) ?_
    have S3 : sIf (bVal (d2 gGt (dCallIo F__law_take 0 (dCons (dC (.int 3)) dNil)) (dC (.int 0)))) (sSetF 2 (d2 gCat (dVar 2) (dLst (dCons (dTup (dCons (dC (.str ("penalty" : Str))) (dCons (dC (.int 0)) (dCons (dC (.int 10000)) (dCons (dC (.bl false)) dNil))))) (dCons (dTup (dCons (dC (.str ("glue" : Str))) (dCons (dC (.int 0)) (dCons (dC (.int 40)) (dCons (dC (.int 0)) dNil))))) dNil))))) sNx (liE x3 l s3 s4 s5 s6) = .nx (liE x4 l s3 s4 s5 s6) := by
      rw [sIf_f (ρ1 := liE x4 l s3 s4 s5 s6) (by simp [liE, e4]; omega)]
      rfl
    unfold den__law_items
    rw [seq_nx S1, seq_nx S2, seq_nx S3, S4 l x4 s3 s4 s5 s6 (by omega)]
end PL.K70

set_option Elab.async false
set_option linter.all false
set_option maxRecDepth 100000
set_option maxHeartbeats 4000000
namespace PL.K70
open PySem PySem.Spec L2 PL
set_option autoImplicit false
/-! ### the law -/
structure D8 where
  a : Sl
  b : Sl
  c : Sl
  d : Sl
  e : Sl
  f : Sl
  g : Sl
  h : Sl
def lwE (a0 : PV) (ds : List Int) (s2 : Sl) (l : List Item) (s5 s6 : Sl) (x : D8) (s15 s16 s17 s18 : Sl) : Env := [.sh a0, .ow (dk ds), s2, .sh (itsP l), .sh (nP (brks l)), s5, s6, x.a, x.b, x.c, x.d, x.e, x.f, x.g, x.h, s15, s16, s17, s18, .un]
theorem set_txt (gap whole : Int) (below : Nat) : ∀ (m : List Item) (s : Int × List RowT) (r : RowT), r ∈ (m.foldl (setStep gap whole below) s).2 → r ∈ s.2 ∨ ∃ w, Item.box w r.2 ∈ m
  | [], s, r, h => .inl h
  | i :: m, s, r, h => by
    rcases set_txt gap whole below m _ r h with h1 | ⟨w, h1⟩
    · cases i with
      | box w t =>
        rcases List.mem_append.mp h1 with h2 | h2
        · exact .inl h2
        · rw [List.mem_singleton.mp h2]
          exact .inr ⟨w, List.mem_cons_self⟩
      | glue w a b => exact .inl h1
      | pen w c f => exact .inl h1
    · exact .inr ⟨w, List.mem_cons_of_mem _ h1⟩
theorem lineOf_mem {l m : List Item} {s e : Nat} (h : lineOf l s e = some m) {i : Item} (hi : i ∈ m) : i ∈ l := by
  have e : m = strip (seg l s e) := by
    unfold lineOf at h
    split at h
    · cases h
    · split at h
      · cases h
      · cases h; rfl
  subst e
  exact mem_seg (mem_strip hi)
theorem okD_rows {l m : List Item} (g : Good l) {s e : Nat} {w : Int} (hm : lineOf l s e = some m) (z : Nat) : okD 4 (rwsP (setOf l m z w).2) = true := by
  refine okD_lst ?_ (okDs_map fun r hr => ?_)
  · have h1 := set_len (w - (natS m + extW l z)) (wholeOf (w - (natS m + extW l z)) (strS m) (shrS m)) (belowOf (wholeOf (w - (natS m + extW l z)) (strS m) (shrS m))) m (0, [])
    have := (lineOf_Ln g hm).len
    have h1 : (setOf l m z w).2.length ≤ 0 + m.length := h1
    rw [List.length_map]
    omega
  · rcases set_txt _ _ _ m _ r hr with h2 | ⟨w', h2⟩
    · cases h2
    · have : PyData.canLay0 (.str r.2) = true := g.tx _ (lineOf_mem hm h2)
      refine okD_tup (by simp) ?_
      simp [okDs, okD, this]
theorem nex : gNe (.tup [.str "length", .str "width"]) (.tup [.str "length", .str "width"]) = some (.bl false) := by kernel_rfl
theorem nex2 : gNe (.tup [.str "items", .str "breaks"]) (.tup [.str "items", .str "breaks"]) = some (.bl false) := by kernel_rfl
theorem below_bd (l m : List Item) (g : Good l) {s e : Nat} (hm : lineOf l s e = some m) (z : Nat) (w : Int) : smallI ((belowL l m z w : Nat) : Int) = true := by
  have ln := lineOf_Ln g hm
  have b2 := str_bd ln
  have b3 := shr_bd ln
  have : belowL l m z w ≤ 1000000 := by
    unfold belowL belowOf wholeOf
    split <;> (try split) <;> omega
  exact smI (by omega) (by omega)
theorem end_body {l : List Item} (g : Good l) {s e : Nat} (hs : From l s) (he : e ∈ brks l) (a0 : PV) (ds : List Int) (s2 : Sl) (x : D8) (s15 s16 s17 s18 : Sl) :
    ∃ ds' x', B_law_3 (lwE a0 ds s2 l (.sh (.int ((s : Int) - 1))) (.sh (.int (e : Int))) x s15 s16 s17 s18) = .nx (lwE a0 ds' s2 l (.sh (.int ((s : Int) - 1))) (.sh (.int (e : Int))) x' s15 s16 s17 s18) := by
  have hel := brks_lt he
  unfold B_law_3
  by_cases h : s ≤ e
  · have hL := F__law_line_ok l h (by omega) g.len
    have h1 : (s : Int) - 1 < (e : Int) := by omega
    cases hm : lineOf l s e with
    | none =>
      rw [hm] at hL
      refine ⟨ds, x, ?_⟩
      generalize (s : Int) - 1 = a at *
      generalize (e : Int) = z at *
      rw [sIf_f (ρ1 := lwE a0 ds s2 l (.sh (.int a)) (.sh (.int z)) x s15 s16 s17 s18) (by simp [lwE, h1, hL, optP, isN_non])]
      rfl
    | some m =>
      rw [hm] at hL
      obtain ⟨v, d1, hv, e1⟩ := take_nat ds 25 (by omega)
      have e1 : F__law_take [dk ds, .int 25] = _ := e1
      have hw0 : (0 : Int) ≤ 1 + (v : Int) := by omega
      have hw1 : 1 + (v : Int) ≤ 100000 := by omega
      have hD := F__law_demerits_ok g h hel hw0 hw1
      have hS := F__law_set_ok g h hel hm hw0 hw1
      have hU := F__law_sums_ok l m hel (lineOf_Ln g hm).len
      have h2 := fun hb => F_set_line_ok g hs he h hm hw0 hw1 hb
      have h3 := fun hb => ref_width g hs he h hm hw0 hw1 hb
      have h4 := fun hb hc => place_ok g (w := 1 + (v : Int)) hm hb hc
      have ok := okD_le (show 4 ≤ 5 by omega) (okD_rows g hm e (w := 1 + (v : Int)))
      have pl := F_plain_eq 5 _ ok
      have ne := plain_ne ok (by omega)
      have sb := below_bd l m g hm e (1 + (v : Int))
      have e0 := ix_items l e hel
      have hx : ∀ ρ : Env, ρ[3]? = some (.sh (itsP l)) → ρ[6]? = some (.sh (.int (e : Int))) → dIf (bVal (d2 gEq (d2 gIx (d2 gIx (dVar 3) (dVar 6)) (dC (.int 0))) (dC (.str ("penalty" : Str))))) (d2 gIx (d2 gIx (dVar 3) (dVar 6)) (dC (.int 1))) (dC (.int 0)) ρ = .ok (.int (extW l e)) ρ := by
        intro ρ r1 r2
        unfold extW
        rw [List.getElem?_eq_getElem hel]
        cases hx : l[e] with
        | box w t => rw [hx] at e0; simp [r1, r2, e0, ix0, kd_pen, isPen]
        | glue w a b => rw [hx] at e0; simp [r1, r2, e0, ix0, kd_pen, isPen]
        | pen w c f => rw [hx] at e0; simp [r1, r2, e0, ix0, kd_pen, isPen, px1, wd]
      generalize dem l s e (1 + (v : Int)) = D at *
      generalize setOf l m e (1 + (v : Int)) = ST at *
      generalize ((belowL l m e (1 + (v : Int)) : Nat) : Int) = BL at *
      generalize extW l e = X at *
      generalize natS m = N at *
      generalize strS m = T at *
      generalize shrS m = K at *
      generalize (s : Int) - 1 = a at *
      generalize (e : Int) = z at *
      generalize hWg : 1 + (v : Int) = W at *
      have c1 : bAnd (bVal (d2 gGt (dVar 6) (dVar 5))) (bVal (d2 (gIsN true) (dCall F__law_line (dCons (dVar 3) (dCons (dVar 5) (dCons (dVar 6) dNil)))) (dC .non))) (lwE a0 ds s2 l (.sh (.int a)) (.sh (.int z)) x s15 s16 s17 s18) = .ok true (lwE a0 ds s2 l (.sh (.int a)) (.sh (.int z)) x s15 s16 s17 s18) := by
        simp [lwE, h1, hL, optP, isN_its]
      have S1 : sSet 7 (dAdd (dC (.int 1)) (dCallIo F__law_take 1 (dCons (dC (.int 25)) dNil))) (lwE a0 ds s2 l (.sh (.int a)) (.sh (.int z)) x s15 s16 s17 s18) = .nx (lwE a0 d1 s2 l (.sh (.int a)) (.sh (.int z)) { x with a := .sh (.int W) } s15 s16 s17 s18) := by
        generalize (v : Int) = vv at *
        simp [lwE, e1, hWg]
      cases D with
      | none =>
        refine ⟨d1, { x with a := .sh (.int W) }, ?_⟩
        rw [sIf_t c1, seq_nx S1, sIf_t (ρ1 := lwE a0 d1 s2 l (.sh (.int a)) (.sh (.int z)) { x with a := .sh (.int W) } s15 s16 s17 s18) (by simp [lwE, hD, optI, isN_non])]
        rw [sIf_f (ρ1 := lwE a0 d1 s2 l (.sh (.int a)) (.sh (.int z)) { x with a := .sh (.int W) } s15 s16 s17 s18) (by simp [lwE, h3, szn (show 2 ≤ 1000000 by omega), nex])]
        rfl
      | some d =>
        have h2 := h2 (by intro q; cases q)
        have h4 := h4 (by intro q; cases q)
        refine ⟨d1, ⟨.sh (.int W), .sh (rwsP ST.2), .sh (.int ST.1), .sh (.int BL), .sh (.int (N + X)), .sh (.int T), .sh (.int K), .sh (.int X)⟩, ?_⟩
        rw [sIf_t c1, seq_nx S1, sIf_f (ρ1 := lwE a0 d1 s2 l (.sh (.int a)) (.sh (.int z)) { x with a := .sh (.int W) } s15 s16 s17 s18) (by simp [lwE, hD, optI, isN_int])]
        rw [seq_nx (ρ1 := lwE a0 d1 s2 l (.sh (.int a)) (.sh (.int z)) { x with a := .sh (.int W), b := .sh (rwsP ST.2), c := .sh (.int ST.1), d := .sh (.int BL) } s15 s16 s17 s18) (by simp [lwE, hS]),
          seq_nx (ρ1 := lwE a0 d1 s2 l (.sh (.int a)) (.sh (.int z)) { x with a := .sh (.int W), b := .sh (rwsP ST.2), c := .sh (.int ST.1), d := .sh (.int BL) } s15 s16 s17 s18) (by simp [lwE, h2, pl, ne]),
          seq_nx (ρ1 := lwE a0 d1 s2 l (.sh (.int a)) (.sh (.int z)) ⟨.sh (.int W), .sh (rwsP ST.2), .sh (.int ST.1), .sh (.int BL), .sh (.int (N + X)), .sh (.int T), .sh (.int K), x.h⟩ s15 s16 s17 s18) (by simp [lwE, hL, optP, hU]),
          seq_nx (ρ1 := lwE a0 d1 s2 l (.sh (.int a)) (.sh (.int z)) ⟨.sh (.int W), .sh (rwsP ST.2), .sh (.int ST.1), .sh (.int BL), .sh (.int (N + X)), .sh (.int T), .sh (.int K), .sh (.int X)⟩ s15 s16 s17 s18) (by rw [sSet_ok (hx _ rfl rfl)]; rfl)]
        have cf : bAnd (bOr (bVal (d2 gGe (dVar 11) (dVar 7))) (bVal (d2 gGt (dVar 12) (dC (.int 0))))) (bVal (d2 gNe (dAdd (dVar 9) (dMul (dVar 14) (dVar 10))) (dMul (dVar 7) (dVar 10)))) (lwE a0 d1 s2 l (.sh (.int a)) (.sh (.int z)) ⟨.sh (.int W), .sh (rwsP ST.2), .sh (.int ST.1), .sh (.int BL), .sh (.int (N + X)), .sh (.int T), .sh (.int K), .sh (.int X)⟩ s15 s16 s17 s18) = .ok false (lwE a0 d1 s2 l (.sh (.int a)) (.sh (.int z)) ⟨.sh (.int W), .sh (rwsP ST.2), .sh (.int ST.1), .sh (.int BL), .sh (.int (N + X)), .sh (.int T), .sh (.int K), .sh (.int X)⟩ s15 s16 s17 s18) := by
          by_cases q1 : W ≤ N + X
          · have h4 := h4 (.inl q1)
            simp [lwE, q1, sb, h4]
          · by_cases q2 : 0 < T
            · have h4 := h4 (.inr q2)
              simp [lwE, q1, q2, sb, h4]
            · simp [lwE, q1, q2]
        rw [sIf_f cf]
        rfl
  · have h1 : ¬ (s : Int) - 1 < (e : Int) := by omega
    generalize (s : Int) - 1 = a at *
    generalize (e : Int) = z at *
    refine ⟨ds, x, ?_⟩
    rw [sIf_f (ρ1 := lwE a0 ds s2 l (.sh (.int a)) (.sh (.int z)) x s15 s16 s17 s18) (by simp [lwE, h1])]
    rfl
theorem ends_loop {l : List Item} (g : Good l) {s : Nat} (hs : From l s) (a0 : PV) (ds : List Int) (s2 s6 : Sl) (x : D8) (s15 s16 s17 s18 : Sl) :
    ∃ ds' s6' x', B_law_2 (lwE a0 ds s2 l (.sh (.int ((s : Int) - 1))) s6 x s15 s16 s17 s18) = .nx (lwE a0 ds' s2 l (.sh (.int ((s : Int) - 1))) s6' x' s15 s16 s17 s18) := by
  obtain ⟨ρ, h1, ds', s6', x', h2⟩ := dLoop_foldR (tgt := gName 6) (body := B_law_3) (σ := Unit)
    (fun _ ρ => ∃ ds s6 x, ρ = lwE a0 ds s2 l (.sh (.int ((s : Int) - 1))) s6 x s15 s16 s17 s18) (fun i : Nat => PV.int (i : Nat)) (fun s _ => s) (brks l)
    (fun _ e ρ hr he => by
      obtain ⟨ds, s6, x, rfl⟩ := hr
      obtain ⟨ds', x', h⟩ := end_body g hs he a0 ds s2 x s15 s16 s17 s18
      exact ⟨_, _, rfl, .inl h, ds', _, x', rfl⟩)
    (s0 := ()) (ρ0 := lwE a0 ds s2 l (.sh (.int ((s : Int) - 1))) s6 x s15 s16 s17 s18) ⟨ds, s6, x, rfl⟩
  subst h2
  refine ⟨ds', s6', x', ?_⟩
  unfold B_law_2
  rw [sFor_ok (xs := (brks l).map fun i : Nat => PV.int (i : Nat)) (ρ1 := lwE a0 ds s2 l (.sh (.int ((s : Int) - 1))) s6 x s15 s16 s17 s18) (by simp [lwE, nP])]
  exact h1
theorem starts_loop {l : List Item} (g : Good l) (a0 : PV) (ds : List Int) (s2 s5 s6 : Sl) (x : D8) (s15 s16 s17 s18 : Sl) :
    ∃ ds' s5' s6' x', sFor (iSeq (dAdd (dLst (dCons (dNeg (dC (.int 1))) dNil)) (dVar 4))) (gName 5) B_law_2 (lwE a0 ds s2 l s5 s6 x s15 s16 s17 s18) = .nx (lwE a0 ds' s2 l s5' s6' x' s15 s16 s17 s18) := by
  have hb := brks_len l
  have hg := g.len
  obtain ⟨ρ, h1, ds', s5', s6', x', h2⟩ := dLoop_foldR (tgt := gName 5) (body := B_law_2) (σ := Unit)
    (fun _ ρ => ∃ ds s5 s6 x, ρ = lwE a0 ds s2 l s5 s6 x s15 s16 s17 s18) (fun s : Nat => PV.int ((s : Int) - 1)) (fun s _ => s) (0 :: (brks l).map (· + 1))
    (fun _ s ρ hr hs => by
      obtain ⟨ds, s5, s6, x, rfl⟩ := hr
      have hf : From l s := by
        rcases List.mem_cons.mp hs with rfl | hs
        · exact .inl rfl
        · obtain ⟨e, he, rfl⟩ := List.mem_map.mp hs
          exact .inr ⟨by omega, by rw [Nat.add_sub_cancel]; exact he⟩
      obtain ⟨ds', s6', x', h⟩ := ends_loop g hf a0 ds s2 s6 x s15 s16 s17 s18
      exact ⟨_, _, rfl, .inl h, ds', _, s6', x', rfl⟩)
    (s0 := ()) (ρ0 := lwE a0 ds s2 l s5 s6 x s15 s16 s17 s18) ⟨ds, s5, s6, x, rfl⟩
  subst h2
  refine ⟨ds', s5', s6', x', ?_⟩
  have ex : (0 :: (brks l).map (· + 1)).map (fun s : Nat => PV.int ((s : Int) - 1)) = .int (-1) :: (brks l).map fun i : Nat => PV.int (i : Nat) := by
    rw [List.map_cons, List.map_map]
    congr 1
    refine List.map_congr_left fun i _ => ?_
    show PV.int (((i + 1 : Nat) : Int) - 1) = _
    congr 1
    omega
  rw [ex] at h1
  have hz : 1 + (brks l).length ≤ sizeLine := szn (by omega)
  rw [sFor_ok (xs := .int (-1) :: (brks l).map fun i : Nat => PV.int (i : Nat)) (ρ1 := lwE a0 ds s2 l s5 s6 x s15 s16 s17 s18) (by simp [lwE, nP, szn (show 1 ≤ 1000000 by omega), hz])]
  exact h1
/-! widths -/
theorem draw_widths {l : List Item} (a0 : PV) (ds : List Int) (s2 s5 s6 : Sl) (x : D8) (s15 s16 s17 s18 : Sl) : ∃ ds' ws, Ws ws ∧
    sSet 15 (dLc [19] (iR1 (dCons (dAdd (dC (.int 1)) (dCallIo F__law_take 1 (dCons (dC (.int 2)) dNil))) dNil)) (gName 19) bYes E_law_4) (lwE a0 ds s2 l s5 s6 x s15 s16 s17 s18) = .nx (lwE a0 ds' s2 l s5 s6 x (.sh (wsP ws)) s16 s17 s18) := by
  obtain ⟨n, d1, hn, e1⟩ := take_nat ds 2 (by omega)
  have e1 : F__law_take [dk ds, .int 2] = _ := e1
  have hr := rg1_nat (ρ := lwE a0 d1 s2 l s5 s6 x s15 s16 s17 s18) (n := 1 + n) (by omega)
  have hr2 : rangeP 0 (1 + n) = (List.range (1 + n)).map fun i : Nat => PV.int (i : Nat) := by simp [rangeP_map]
  rw [hr2] at hr
  have ec : ((1 + n : Nat) : Int) = 1 + (n : Int) := by omega
  rw [ec] at hr
  obtain ⟨vs, x2, h1, h2, h3⟩ := dLc_draw (i := 19) (j := 1) (ρ := lwE a0 ds s2 l s5 s6 x s15 s16 s17 s18) (ρ1 := lwE a0 d1 s2 l s5 s6 x s15 s16 s17 s18) (E := E_law_4) (di := iR1 (dCons (dAdd (dC (.int 1)) (dCallIo F__law_take 1 (dCons (dC (.int 2)) dNil))) dNil)) (fun i : Nat => PV.int (i : Nat)) (fun w : Nat => PV.int (w : Nat)) (fun w => 1 ≤ w ∧ w ≤ 1000) (List.range (1 + n))
    (by
      generalize (n : Int) = nn at *
      simp [lwE, e1]
      exact hr) rfl rfl (by simp; omega)
    (fun c _ ds => by
      obtain ⟨v, x3, hv, e2⟩ := take_nat ds 12 (by omega)
      have e2 : F__law_take [dk ds, .int 12] = _ := e2
      refine ⟨4 + v, x3, by omega, ?_⟩
      have ec2 : ((4 + v : Nat) : Int) = 4 + (v : Int) := by omega
      rw [ec2]
      generalize (v : Int) = vv at *
      simp [E_law_4, lwE, e2])
  refine ⟨x2, vs, ⟨fun z => ?_, fun w hw => (h2 w hw).1, fun w hw => (h2 w hw).2, by rw [h1]; simp; omega⟩, ?_⟩
  · rw [z] at h1; simp at h1; omega
  · rw [sSet_ok h3]
    rfl
end PL.K70

set_option Elab.async false
set_option linter.all false
set_option maxRecDepth 100000
set_option maxHeartbeats 4000000
namespace PL.K70
open PySem PySem.Spec L2 PL
set_option autoImplicit false
/-! ### the law's rows -/
theorem rows_one {l : List Item} (g : Good l) {ws : List Nat} (hw : Ws ws) {row : List Nat} (h : ROk l ws row) {i : Nat} (hi : i < row.length) (a0 : PV) (ds : List Int) (s2 s6 : Sl) (x : D8) (q : PV) :
    B_law_5 (lwE a0 ds s2 l (.sh (.int ((stA row i : Int) - 1))) s6 x (.sh (wsP ws)) (.sh (.tup [.str "breaks", nP row, q])) (.ow (parP l ws row i)) (.sh (.int (i : Int)))) =
      .nx (lwE a0 ds s2 l (.sh (.int ((stA row (i + 1) : Int) - 1))) (.sh (.int (row[i] : Nat))) x (.sh (wsP ws)) (.sh (.tup [.str "breaks", nP row, q])) (.ow (parP l ws row (i + 1))) (.sh (.int (i : Int)))) := by
  have hlr := h.len
  obtain ⟨c1, c2, c3⟩ := chain_get row 0 0 i h.ch hi
  rw [Nat.zero_add] at c3
  have hm := hw.le _ (wAt_mem hw i)
  obtain ⟨m, hl⟩ := line_some c3
  have hS := F__law_set_ok g (s := stA row i) (e := row[i]) (w := (wAt ws i : Nat)) c1 (brks_lt c2) hl (by omega) (by omega)
  have hx := ix_nP hi
  have hst : (stA row (i + 1) : Int) - 1 = (row[i] : Nat) := by unfold stA; rw [endF_take hi]; omega
  have hp : rwsP (setOf l m row[i] (wAt ws i : Nat)).2 = parA l ws row i := by
    have hl : lineOf l (stA row i) row[i] = some m := hl
    unfold parA lnA
    rw [List.getD_eq_getElem?_getD, List.getElem?_eq_getElem hi]
    simp only [Option.getD_some, hl]
  have ha := app_par (l := l) (ws := ws) (row := row) (i := i) (by omega)
  have ht : isT "list" (parP l ws row i) = true := rfl
  have hW := ix_ws hw i
  rw [← min_if] at hW
  have hN : gLenN [wsP ws] = some (.int (ws.length : Nat)) := by simp [wsP]
  rw [hp] at hS
  rw [hst]
  generalize (stA row i : Int) - 1 = a at *
  generalize ((row[i] : Nat) : Int) = z at *
  generalize ((wAt ws i : Nat) : Int) = W at *
  generalize parA l ws row i = q0 at *
  generalize parP l ws row i = q1 at *
  generalize parP l ws row (i + 1) = q2 at *
  generalize (i : Int) = ii at *
  generalize (ws.length : Int) = nn at *
  unfold B_law_5
  rw [seq_nx (ρ1 := lwE a0 ds s2 l (.sh (.int a)) (.sh (.int z)) x (.sh (wsP ws)) (.sh (.tup [.str "breaks", nP row, q])) (.ow q1) (.sh (.int ii))) (by simp [lwE, at1, hx]),
    seq_nx (ρ1 := lwE a0 ds s2 l (.sh (.int a)) (.sh (.int z)) x (.sh (wsP ws)) (.sh (.tup [.str "breaks", nP row, q])) (.ow q2) (.sh (.int ii))) (by simp [lwE, hN, hW, hS, at0, ha, ht, -ap_lenN])]
  simp [lwE]
theorem parP_len (l : List Item) (ws row : List Nat) (n : Nat) : gLen (parP l ws row n) = some (.int (n : Nat)) := by simp [parP]
theorem okD_par {l : List Item} (g : Good l) {ws : List Nat} (hw : Ws ws) {row : List Nat} (h : ROk l ws row) : okD 5 (parP l ws row row.length) = true := by
  have hlr := h.len
  refine okD_lst (by simp; omega) (okDs_map fun i hi => ?_)
  have hi : i < row.length := List.mem_range.mp hi
  obtain ⟨c1, c2, c3⟩ := chain_get row 0 0 i h.ch hi
  obtain ⟨m, hl⟩ := line_some c3
  have hl : lineOf l (stA row i) row[i] = some m := hl
  unfold parA lnA
  rw [List.getD_eq_getElem?_getD, List.getElem?_eq_getElem hi]
  simp only [Option.getD_some, hl]
  exact okD_rows g hl _
theorem eq_br : gEq (.str "breaks") (.str "breaks") = some (.bl true) := by kernel_rfl
theorem eq_st : gEq (.str "stuck") (.str "breaks") = some (.bl false) := by kernel_rfl
def ifBreaks : DenS := sIf (bVal (d2 gEq (d2 gIx (dVar 16) (dC (.int 0))) (dC (.str ("breaks" : Str))))) (sSeq (sSetF 17 (dLst dNil))
    (sSeq (sSet 5 (dNeg (dC (.int 1))))
    (sSeq (sFor (iR1 (dCons (dN gLenN (dCons (d2 gIx (dVar 16) (dC (.int 1))) dNil)) dNil)) (gName 18) B_law_5)
    (sIf (bVal (d2 gNe (dCall F__law_plain (dCons (dCall F_set_paragraph (dCons (dVar 3) (dCons (dVar 15) (dCons (d2 gIx (dVar 16) (dC (.int 1))) dNil)))) dNil)) (dCall F__law_plain (dCons (dVar 17) dNil)))) (sRet (dC (.bl false))) sNx)))) sNx
theorem if_breaks {l : List Item} (g : Good l) {ws : List Nat} (hw : Ws ws) {p : PV} (hp : Paper l ws p) (a0 : PV) (ds : List Int) (s2 s5 s6 : Sl) (x : D8) (s17 s18 : Sl) :
    ∃ s5' s6' s17' s18', ifBreaks (lwE a0 ds s2 l s5 s6 x (.sh (wsP ws)) (.sh p) s17 s18) = .nx (lwE a0 ds s2 l s5' s6' x (.sh (wsP ws)) (.sh p) s17' s18') := by
  unfold ifBreaks
  cases hp with
  | stuck q =>
    refine ⟨s5, s6, s17, s18, ?_⟩
    rw [sIf_f (ρ1 := lwE a0 ds s2 l s5 s6 x (.sh (wsP ws)) (.sh (.tup [.str "stuck", q])) s17 s18) (by simp [lwE, at0, eq_st])]
    rfl
  | breaks row q h =>
    have hlr := h.len
    have hP := F_set_paragraph_ok g hw h
    have ok := okD_par g hw h
    have pl := F_plain_eq 5 _ ok
    have ne := plain_ne ok (by omega)
    have hN : gLenN [nP row] = some (.int (row.length : Nat)) := by simp [nP]
    obtain ⟨ρ, h3, s6', s18', h4⟩ := dLoop_inv (tgt := gName 18) (body := B_law_5) (items := rangeP 0 row.length) (ρ0 := lwE a0 ds s2 l (.sh (.int ((stA row 0 : Int) - 1))) s6 x (.sh (wsP ws)) (.sh (.tup [.str "breaks", nP row, q])) (.ow (parP l ws row 0)) s18)
      (fun i ρ => ∃ s6 s18, ρ = lwE a0 ds s2 l (.sh (.int ((stA row i : Int) - 1))) s6 x (.sh (wsP ws)) (.sh (.tup [.str "breaks", nP row, q])) (.ow (parP l ws row i)) s18)
      (fun i y ρ hy hr => by
        obtain ⟨hi, rfl⟩ := rangeP_get hy
        obtain ⟨s6, s18, rfl⟩ := hr
        rw [Int.zero_add]
        exact ⟨_, _, rfl, .inl (rows_one g hw h hi a0 ds s2 s6 x q), _, _, rfl⟩) ⟨s6, s18, rfl⟩
    rw [rangeP_len] at h4
    subst h4
    refine ⟨.sh (.int ((stA row row.length : Int) - 1)), s6', .sh (parP l ws row row.length), s18', ?_⟩
    rw [sIf_t (ρ1 := lwE a0 ds s2 l s5 s6 x (.sh (wsP ws)) (.sh (.tup [.str "breaks", nP row, q])) s17 s18) (by simp [lwE, at0, eq_br])]
    rw [seq_nx (ρ1 := lwE a0 ds s2 l s5 s6 x (.sh (wsP ws)) (.sh (.tup [.str "breaks", nP row, q])) (.ow (parP l ws row 0)) s18) (by simp [lwE, parP]),
      seq_nx (ρ1 := lwE a0 ds s2 l (.sh (.int ((stA row 0 : Int) - 1))) s6 x (.sh (wsP ws)) (.sh (.tup [.str "breaks", nP row, q])) (.ow (parP l ws row 0)) s18) (by simp [lwE, stA, endF]),
      seq_nx (by rw [sFor_ok (xs := rangeP 0 row.length) (ρ1 := lwE a0 ds s2 l (.sh (.int ((stA row 0 : Int) - 1))) s6 x (.sh (wsP ws)) (.sh (.tup [.str "breaks", nP row, q])) (.ow (parP l ws row 0)) s18) (by simp [lwE, at1, hN, rg1_nat (show row.length ≤ 1000000000 by omega), -ap_lenN])]; exact h3)]
    rw [sIf_f (ρ1 := lwE a0 ds s2 l (.sh (.int ((stA row row.length : Int) - 1))) s6' x (.sh (wsP ws)) (.sh (.tup [.str "breaks", nP row, q])) (.sh (parP l ws row row.length)) s18') (by simp [lwE, at1, hP, pl, ne])]
    rfl
theorem asg_items {F : List PV → FR} {ds d1 : List Int} {P a0 : PV} {s2 s3 s4 s5 s6 s15 s16 s17 s18 : Sl} {x : D8} (e : F [dk ds, .int 12] = .ok P (dk d1)) : sSet 3 (dCallIo F 1 (dCons (dC (.int 12)) dNil)) [.sh a0, .ow (dk ds), s2, s3, s4, s5, s6, x.a, x.b, x.c, x.d, x.e, x.f, x.g, x.h, s15, s16, s17, s18, .un] = .nx [.sh a0, .ow (dk d1), s2, .sh P, s4, s5, s6, x.a, x.b, x.c, x.d, x.e, x.f, x.g, x.h, s15, s16, s17, s18, .un] := by
  simp [e]
theorem turn_ok (a0 : PV) (ds : List Int) (s2 s3 s4 s5 s6 : Sl) (x : D8) (s15 s16 s17 s18 : Sl) :
    ∃ (ds' : List Int) (t3 t4 t5 t6 : Sl) (x' : D8) (t15 t16 t17 t18 : Sl), B_law_1 [.sh a0, .ow (dk ds), s2, s3, s4, s5, s6, x.a, x.b, x.c, x.d, x.e, x.f, x.g, x.h, s15, s16, s17, s18, .un] = .nx [.sh a0, .ow (dk ds'), s2, t3, t4, t5, t6, x'.a, x'.b, x'.c, x'.d, x'.e, x'.f, x'.g, x'.h, t15, t16, t17, t18, .un] := by
  obtain ⟨d1, l, e1, g, hl⟩ := F__law_items_ok ds
  have e2 := F__law_breaks_ok l g.len
  obtain ⟨x2, t5, t6, y, e3⟩ := starts_loop g a0 d1 s2 s5 s6 x s15 s16 s17 s18
  obtain ⟨x3, ws, hw, e4⟩ := draw_widths (l := l) a0 x2 s2 t5 t6 y s15 s16 s17 s18
  obtain ⟨p, hp, e5⟩ := F_best_breaks_ok g hw hl
  obtain ⟨u5, u6, u17, u18, e6⟩ := if_breaks g hw hp a0 x3 s2 t5 t6 y s17 s18
  have e7 := ref_breaks g hw
  have e8 : dSl gSl (dVar 4) oNone (oSome (dNeg (dC (.int 1)))) (lwE a0 x3 s2 l u5 u6 y (.sh (wsP ws)) (.sh p) u17 u18) = .ok (nP (brks l).dropLast) (lwE a0 x3 s2 l u5 u6 y (.sh (wsP ws)) (.sh p) u17 u18) := by
    simp [lwE, nP, cut_last]
  refine ⟨x3, .sh (itsP l), .sh (nP (brks l)), u5, u6, y, .sh (wsP ws), .sh p, u17, u18, ?_⟩
  unfold B_law_1
  rw [seq_nx (asg_items e1), seq_nx (ρ1 := lwE a0 d1 s2 l s5 s6 x s15 s16 s17 s18) (by simp [e2, lwE]), seq_nx e3, seq_nx e4,
    seq_nx (ρ1 := lwE a0 x3 s2 l t5 t6 y (.sh (wsP ws)) (.sh p) s17 s18) (by simp [lwE, e5])]
  have e6 : (sIf (bVal (d2 gEq (d2 gIx (dVar 16) (dC (.int 0))) (dC (.str ("breaks" : Str))))) _ sNx) _ = _ := e6
  rw [seq_nx e6]
  rw [sIf_f (ρ1 := lwE a0 x3 s2 l u5 u6 y (.sh (wsP ws)) (.sh p) u17 u18)]
  · rfl
  · unfold lwE at e8 ⊢
    simp [e8, e7, nex2, szn (show 2 ≤ 1000000 by omega), -ap_dSl]
theorem top_ok : F_top := by
  intro ns hns
  obtain ⟨ds0, e0⟩ := F_deck_eq (ns := ns) (c := 60) (e := 14) (by rw [sizeLine_eq]; omega) (by omega) (by omega)
  generalize ha0 : PV.klst (ns.map .int) = a0 at *
  have e0 : F_deck [a0, .int 60, .int 14] = .ok (dk ds0) .non := e0
  obtain ⟨ds1, a3, a4, a5, a6, x1, a15, a16, a17, a18, k1⟩ := turn_ok a0 ds0 (.sh (.int 0)) .un .un .un .un ⟨.un, .un, .un, .un, .un, .un, .un, .un⟩ .un .un .un .un
  obtain ⟨ds2, b3, b4, b5, b6, x2, b15, b16, b17, b18, k2⟩ := turn_ok a0 ds1 (.sh (.int 1)) a3 a4 a5 a6 x1 a15 a16 a17 a18
  have hr : rangeP 0 2 = [.int 0, .int 1] := rfl
  have L : sFor (iR1 (dCons (dC (.int 2)) dNil)) (gName 2) B_law_1 [.sh a0, .ow (dk ds0), .un, .un, .un, .un, .un, .un, .un, .un, .un, .un, .un, .un, .un, .un, .un, .un, .un, .un] = .nx [.sh a0, .ow (dk ds2), .sh (.int 1), b3, b4, b5, b6, x2.a, x2.b, x2.c, x2.d, x2.e, x2.f, x2.g, x2.h, b15, b16, b17, b18, .un] := by
    have r2 : rg1 [.int 2] [.sh a0, .ow (dk ds0), .un, .un, .un, .un, .un, .un, .un, .un, .un, .un, .un, .un, .un, .un, .un, .un, .un, .un] = .ok (rangeP 0 2) [.sh a0, .ow (dk ds0), .un, .un, .un, .un, .un, .un, .un, .un, .un, .un, .un, .un, .un, .un, .un, .un, .un, .un] := rg1_nat (n := 2) (by omega)
    rw [sFor_ok (xs := [.int 0, .int 1]) (ρ1 := [.sh a0, .ow (dk ds0), .un, .un, .un, .un, .un, .un, .un, .un, .un, .un, .un, .un, .un, .un, .un, .un, .un, .un]) (by rw [ap_iR1, ← hr, ← r2]; rfl)]
    have k1 : B_law_1 [.sh a0, .ow (dk ds0), .sh (.int 0), .un, .un, .un, .un, .un, .un, .un, .un, .un, .un, .un, .un, .un, .un, .un, .un, .un] = _ := k1
    simp [dLoop, k1, k2]
  refine ⟨.non, run_rt (env := [.sh a0, .un, .un, .un, .un, .un, .un, .un, .un, .un, .un, .un, .un, .un, .un, .un, .un, .un, .un, .un]) (ρ := [.sh a0, .ow (dk ds2), .sh (.int 1), b3, b4, b5, b6, x2.a, x2.b, x2.c, x2.d, x2.e, x2.f, x2.g, x2.h, b15, b16, b17, b18, .un]) ?_⟩
  unfold den_law
  rw [seq_nx (ρ1 := [.sh a0, .ow (dk ds0), .un, .un, .un, .un, .un, .un, .un, .un, .un, .un, .un, .un, .un, .un, .un, .un, .un, .un]) (by simp [e0]), seq_nx L]
  simp
end PL.K70

set_option Elab.async false
set_option linter.all false
set_option maxRecDepth 100000
set_option maxHeartbeats 0
open PySem PySem.W PySem.Calls PyProof.Rows
theorem PySem.Challenge.cw_presswork_k70_whole_lines_set_holds : PySem.Challenge.rw_presswork_k70_whole_lines_set.Holds := by
  w_on; o_law
  refine HandSHeadRun.head_imp (H := PL.K70.hk) (ob := PL.K70.ob) (d := HandSHeadRun.topDef (OpenLaw.row PySem.Challenge.rw_presswork_k70_whole_lines_set).prog 52) (kwd := []) PL.K70.ob_eq
     PL.K70.run (by kernel_rfl) (by kernel_rfl) (by kernel_rfl) (by rfl) (by first | assumption | decide +kernel) (by decide +kernel) ⟨rfl, rfl, rfl, rfl, rfl, by decide +kernel⟩ ?hw ?hc
  case hw => w_witness2
  case hc =>
    refine L2.walk_ofE (l := PySem.Challenge.rw_presswork_k70_whole_lines_set) (n := 63) (k := 11) (x := "script") (CX := PL.CXA PySem.Challenge.pw_presswork_k70_whole_lines_set) rfl (by decide) (by kernel_rfl) ⟨rfl, by decide, by decide⟩ ?F PL.CXA.none
    case F =>
      intro w mg fa h Y G hmg0
      obtain ⟨K, KX, c⟩ := Y
      have hmg : mg ("law" : PySem.Str) = some (.ref fa) := by
        have e : (HandSHeadRun.topDef (OpenLaw.row PySem.Challenge.rw_presswork_k70_whole_lines_set).prog 52).name = ("law" : PySem.Str) := by kernel_rfl
        rw [← e]
        exact hmg0
      obtain ⟨fd, hb, hF⟩ := PL.K70.facts PL.K70.top_ok (P := PySem.Challenge.pw_presswork_k70_whole_lines_set) (w := w) KX G hmg c
      exact ⟨K, fd, PL.spTop K, KX, hb, fun H a ns hl _ hS => ⟨a, ns, rfl, hl, hS, fun _ => rfl⟩, fun base h1 h2 => PL.FnOk.anyW (hF base h1 h2)⟩

