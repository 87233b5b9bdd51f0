import PyProof.Rows.All
import HandS.ForMost
import HandS.ForExc
import HandS.CallSlots
import HandS.HeadHook1
import HandS.TupAny
import HandS.Deep
import HandS.IsInst
import HandS.ExcInit
import HandS.ExcField
import HandS.TryMany
import HandS.SortInts
import HandS.Wide
import HandS.Flow
import HandS.ExcOwn
import HandS.Defaults
import HandS.HeadHook4
import HandS.HeadEnd
import HandS.Head2
import HandS.Style
import HandS.Gcd
import HandS.Conv
import HandS.SetFor
import HandS.Strs
import HandS.Codes
import HandS.Head3
import PySem.Challenge.RW_presswork_k72_whole_sheets_folded
set_option Elab.async false
set_option linter.all false
set_option maxRecDepth 100000
set_option maxHeartbeats 4000000
namespace PL
open PySem PySem.Spec L2
set_option autoImplicit false

/-! ### plain values and how the heap bears them -/
inductive PV where
  | non | bl (b : Bool) | int (i : Int) | str (x : Str) | lst (xs : List PV) | tup (xs : List PV) | ktup (xs : List PV) | klst (xs : List PV) | dic (t : Bool) (ks : List PV) (vs : List PV) | fn (a : Str)
instance : Inhabited PV := ⟨.non⟩

def keyPV : Key → PV
  | .inl i => .int i
  | .inr x => .str x
mutual
inductive Rep (K : PySem.W.Frag) (S : Hp) : PV → V → Prop
  | non : Rep K S .non .non
  | bl (b : Bool) : Rep K S (.bl b) (.bl b)
  | int (i : Int) : Rep K S (.int i) (.int i)
  | str (x : Str) : Rep K S (.str x) (.str x)
  | fn (a : Str) : Rep K S (.fn a) (.ref (He.ga K a))
  | lst {a : Addr} {vs : List V} {ps : List PV} : S a = some (.lst vs) → RepL K S ps vs → Rep K S (.lst ps) (.ref a)
  | tup {a : Addr} {vs : List V} {ps : List PV} : S a = some (.tup vs) → RepL K S ps vs → Rep K S (.tup ps) (.ref a)
  | ktup {a : Addr} {vs : List V} {ps : List PV} : SqT K S a vs → RepL K S ps vs → Rep K S (.ktup ps) (.ref a)
  | klst {a : Addr} {vs : List V} {ps : List PV} : SqL K S a vs → RepL K S ps vs → Rep K S (.klst ps) (.ref a)
  | dK {a : Addr} {kvs : List (Key × V)} {ps : List PV} : Rd S a (.dK kvs) → RepL K S ps (kvs.map (·.2)) → Rep K S (.dic false (kvs.map fun p => keyPV p.1) ps) (.ref a)
  | dT {a : Addr} {kvs : List (List Key × V)} {ps : List PV} : Rd S a (.dT kvs) → RepL K S ps (kvs.map (·.2)) → Rep K S (.dic true (kvs.map fun p => .tup (p.1.map keyPV)) ps) (.ref a)
inductive RepL (K : PySem.W.Frag) (S : Hp) : List PV → List V → Prop
  | nil : RepL K S [] []
  | cons {p : PV} {v : V} {ps : List PV} {vs : List V} : Rep K S p v → RepL K S ps vs → RepL K S (p :: ps) (v :: vs)
end
theorem _root_.L2.Rd.same {H H' : Hp} {a : Addr} {u : HO} (h : Rd H a u) (e : Same H H') : Rd H' a u := by
  rcases h with h | ⟨o, h⟩
  · exact .inl (e _ _ h)
  · exact .inr ⟨o, e _ _ h⟩
theorem Same.tupK {K : PySem.W.Frag} {H H' : Hp} {a : Addr} {xs : List V} (e : Same H H') (h : SqT K H a xs) : SqT K H' a xs := by
  rcases h with (h | ⟨o, h⟩) | h
  · exact .inl (.inl (e _ _ h))
  · exact .inl (.inr ⟨o, e _ _ h⟩)
  · exact .inr h
theorem Same.lstK {K : PySem.W.Frag} {H H' : Hp} {a : Addr} {xs : List V} (e : Same H H') (h : SqL K H a xs) : SqL K H' a xs := by
  rcases h with (h | ⟨o, h⟩) | h
  · exact .inl (.inl (e _ _ h))
  · exact .inl (.inr ⟨o, e _ _ h⟩)
  · exact .inr h
section
variable {K : PySem.W.Frag} {S S' : Hp}
mutual
theorem Rep.mono (e : Same S S') : ∀ (p : PV) (v : V), Rep K S p v → Rep K S' p v
  | .non, _, h => by cases h; exact .non
  | .bl b, _, h => by cases h; exact .bl b
  | .int i, _, h => by cases h; exact .int i
  | .str x, _, h => by cases h; exact .str x
  | .fn a, _, h => by cases h; exact .fn a
  | .lst ps, _, h => by cases h with | lst h1 h2 => exact .lst (e _ _ h1) (RepL.mono e ps _ h2)
  | .tup ps, _, h => by cases h with | tup h1 h2 => exact .tup (e _ _ h1) (RepL.mono e ps _ h2)
  | .ktup ps, _, h => by cases h with | ktup h1 h2 => exact .ktup (Same.tupK e h1) (RepL.mono e ps _ h2)
  | .klst ps, _, h => by cases h with | klst h1 h2 => exact .klst (Same.lstK e h1) (RepL.mono e ps _ h2)
  | .dic t ks ps, _, h => by
    cases h with
    | dK h1 h2 => exact .dK (h1.same e) (RepL.mono e ps _ h2)
    | dT h1 h2 => exact .dT (h1.same e) (RepL.mono e ps _ h2)
theorem RepL.mono (e : Same S S') : ∀ (ps : List PV) (vs : List V), RepL K S ps vs → RepL K S' ps vs
  | [], _, h => by cases h; exact .nil
  | p :: ps, _, h => by cases h with | cons h1 h2 => exact .cons (Rep.mono e p _ h1) (RepL.mono e ps _ h2)
end
theorem Rep.up (e : Same S S') {p : PV} {v : V} (h : Rep K S p v) : Rep K S' p v := Rep.mono e p v h
theorem RepL.up (e : Same S S') {p : List PV} {v : List V} (h : RepL K S p v) : RepL K S' p v := RepL.mono e p v h
theorem RepL.length : ∀ {ps : List PV} {vs : List V}, RepL K S ps vs → ps.length = vs.length
  | [], _, h => by cases h; rfl
  | _ :: _, _, h => by cases h with | cons _ h2 => simp [RepL.length h2]
theorem RepL.append : ∀ {ps : List PV} {vs : List V} {qs : List PV} {ws : List V}, RepL K S ps vs → RepL K S qs ws → RepL K S (ps ++ qs) (vs ++ ws)
  | [], _, _, _, h, h' => by cases h; exact h'
  | _ :: _, _, _, _, h, h' => by cases h with | cons h1 h2 => exact .cons h1 (RepL.append h2 h')
theorem RepL.get : ∀ {ps : List PV} {vs : List V} {i : Nat} {p : PV}, RepL K S ps vs → ps[i]? = some p → ∃ v, vs[i]? = some v ∧ Rep K S p v
  | [], _, _, _, _, e => by simp at e
  | q :: ps, _, 0, p, h, e => by cases h with | cons h1 h2 => simp at e; subst e; exact ⟨_, rfl, h1⟩
  | q :: ps, _, i + 1, p, h, e => by
    cases h with
    | cons h1 h2 =>
      obtain ⟨v, e1, r⟩ := RepL.get (i := i) h2 (by simpa using e)
      exact ⟨v, by simpa using e1, r⟩
theorem RepL.get' : ∀ {ps : List PV} {vs : List V} {i : Nat} {v : V}, RepL K S ps vs → vs[i]? = some v → ∃ p, ps[i]? = some p ∧ Rep K S p v
  | [], _, _, _, h, e => by cases h; simp at e
  | q :: ps, _, 0, p, h, e => by cases h with | cons h1 h2 => simp at e; subst e; exact ⟨_, rfl, h1⟩
  | q :: ps, _, i + 1, p, h, e => by
    cases h with
    | cons h1 h2 =>
      obtain ⟨v, e1, r⟩ := RepL.get' (i := i) h2 (by simpa using e)
      exact ⟨v, by simpa using e1, r⟩
theorem RepL.set {p : PV} {v : V} (r : Rep K S p v) : ∀ {ps : List PV} {vs : List V} (i : Nat), RepL K S ps vs → RepL K S (ps.set i p) (vs.set i v)
  | [], _, _, h => by cases h; exact .nil
  | _ :: _, _, 0, h => by cases h with | cons h1 h2 => exact .cons r h2
  | _ :: _, _, i + 1, h => by cases h with | cons h1 h2 => exact .cons h1 (RepL.set r i h2)
theorem RepL.take : ∀ {ps : List PV} {vs : List V} (n : Nat), RepL K S ps vs → RepL K S (ps.take n) (vs.take n)
  | _, _, 0, h => by simp; exact .nil
  | [], _, _ + 1, h => by cases h; exact .nil
  | _ :: _, _, n + 1, h => by cases h with | cons h1 h2 => exact .cons h1 (RepL.take n h2)
theorem RepL.drop : ∀ {ps : List PV} {vs : List V} (n : Nat), RepL K S ps vs → RepL K S (ps.drop n) (vs.drop n)
  | _, _, 0, h => h
  | [], _, _ + 1, h => by cases h; exact .nil
  | _ :: _, _, n + 1, h => by cases h with | cons h1 h2 => exact RepL.drop n h2
theorem RepL.reverse : ∀ {ps : List PV} {vs : List V}, RepL K S ps vs → RepL K S ps.reverse vs.reverse
  | [], _, h => by cases h; exact .nil
  | _ :: _, _, h => by cases h with | cons h1 h2 => rw [List.reverse_cons, List.reverse_cons]; exact RepL.append (RepL.reverse h2) (.cons h1 .nil)
theorem RepL.dropLast {ps : List PV} {vs : List V} (h : RepL K S ps vs) : RepL K S ps.dropLast vs.dropLast := by
  rw [List.dropLast_eq_take, List.dropLast_eq_take, ← h.length]
  exact h.take _
theorem RepL.eraseIdx : ∀ {ps : List PV} {vs : List V} (n : Nat), RepL K S ps vs → RepL K S (ps.eraseIdx n) (vs.eraseIdx n)
  | [], _, _, h => by cases h; exact .nil
  | _ :: _, _, 0, h => by cases h with | cons h1 h2 => exact h2
  | _ :: _, _, n + 1, h => by cases h with | cons h1 h2 => exact .cons h1 (RepL.eraseIdx n h2)
theorem RepL.replicate {p : PV} {v : V} (r : Rep K S p v) : ∀ n, RepL K S (List.replicate n p) (List.replicate n v)
  | 0 => .nil
  | n + 1 => .cons r (RepL.replicate r n)
end

/-- what an owned object at the top is -/
def OwnO (K : PySem.W.Frag) (S : Hp) : PV → HO → Prop
  | .lst ps, .lst vs => RepL K S ps vs
  | .dic false ks ps, .dK kvs => ks = kvs.map (fun p => keyPV p.1) ∧ RepL K S ps (kvs.map (·.2))
  | .dic true ks ps, .dT kvs => ks = kvs.map (fun p => .tup (p.1.map keyPV)) ∧ RepL K S ps (kvs.map (·.2))
  | _, _ => False
theorem OwnO.up {K : PySem.W.Frag} {S S' : Hp} (e : Same S S') {p : PV} {o : HO} (h : OwnO K S p o) : OwnO K S' p o := by
  unfold OwnO at h ⊢
  split at h
  · exact h.up e
  · exact ⟨h.1, h.2.up e⟩
  · exact ⟨h.1, h.2.up e⟩
  · exact h.elim
theorem OwnO.noTup {K : PySem.W.Frag} {S : Hp} {p : PV} {vs : List V} (h : OwnO K S p (.tup vs)) : False := by
  unfold OwnO at h
  split at h <;> first | exact h | contradiction
theorem OwnO.rep {K : PySem.W.Frag} {S : Hp} {p : PV} {o : HO} {a : Addr} (h : OwnO K S p o) (e : S a = some o) : Rep K S p (.ref a) := by
  unfold OwnO at h
  split at h
  · exact .lst e h
  · obtain ⟨rfl, h⟩ := h
    exact .dK (.inl e) h
  · obtain ⟨rfl, h⟩ := h
    exact .dT (.inl e) h
  · exact h.elim

/-! ### slots -/
inductive Sl where
  | un | sh (p : PV) | ow (p : PV) | io (p : PV)
abbrev Env := List Sl
def Sl.own? : Sl → Option PV
  | .ow p => some p
  | .io p => some p
  | _ => none
def Sl.with : Sl → PV → Sl
  | .ow _, q => .ow q
  | .io _, q => .io q
  | s, _ => s
/-- new, or a tuple (no one's own) -/
def NT (H : Hp) (b : Addr) (o : HO) : Prop := H b = none ∨ ∃ vs, o = .tup vs
theorem NT.back {H H' : Hp} {b : Addr} {o : HO} (h : NT H' b o) (e : Same H H') : NT H b o := by
  rcases h with h | h
  · exact .inl (e.free h)
  · exact .inr h
structure Abs (K : PySem.W.Frag) (H₀ S₀ : Hp) (M : Addr → Prop) (S : Hp) (σ : St) (H : Hp) (ρ : Env) : Prop where
  len : ρ.length = σ.length
  sub : Same S H
  base : Same S₀ S
  grow : ∀ b o, S b = some o → S₀ b = some o ∨ NT H₀ b o
  keep : ∀ b o, H₀ b = some o → ¬ M b → H b = some o
  there : ∀ b o, H₀ b = some o → ∃ o', H b = some o'
  sh : ∀ (i : Nat) p, ρ[i]? = some (.sh p) → ∃ v, σ[i]? = some (some v) ∧ Rep K S p v
  own : ∀ (i : Nat) s p, ρ[i]? = some s → s.own? = some p → ∃ a o, σ[i]? = some (some (.ref a)) ∧ (s = .ow p → H₀ a = none) ∧ (s = .io p → M a) ∧ S a = none ∧ H a = some o ∧ OwnO K S p o
  dis : ∀ (i j : Nat) s t p q a, ρ[i]? = some s → s.own? = some p → ρ[j]? = some t → t.own? = some q → σ[i]? = some (some (.ref a)) → σ[j]? = some (some (.ref a)) → i = j
/-- new objects alone -/
structure Step (S H S' H' : Hp) : Prop where
  s : Same S S'
  h : Same H H'
  sub : Same S' H'
  new : ∀ b o, S' b = some o → S b = some o ∨ NT H b o
theorem Step.refl {S H : Hp} (h : Same S H) : Step S H S H := ⟨Same.refl _, Same.refl _, h, fun _ _ e => .inl e⟩
theorem Step.trans {S H S1 H1 S2 H2 : Hp} (a : Step S H S1 H1) (b : Step S1 H1 S2 H2) : Step S H S2 H2 :=
  ⟨a.s.trans b.s, a.h.trans b.h, b.sub, fun c o e => by
    rcases b.new c o e with h | h
    · exact a.new c o h
    · exact .inr (h.back a.h)⟩
theorem same_upd {H : Hp} {p : Addr} {o : HO} (h : H p = none) : Same H (upd H p o) := fun b x e => by
  rw [upd_ne (ne_of_none e h)]
  exact e
theorem Same.updB {S H : Hp} {p : Addr} {o : HO} (h : Same S H) : Same (upd S p o) (upd H p o) := fun b x e => by
  by_cases hb : b = p
  · subst hb; rw [upd_same] at e ⊢; exact e
  · rw [upd_ne hb] at e ⊢; exact h _ _ e
/-- one new object, shared -/
theorem Step.new1 {S H : Hp} {p : Addr} {o : HO} (h : Same S H) (n : H p = none) : Step S H (upd S p o) (upd H p o) :=
  ⟨same_upd (Same.free h n), same_upd n, Same.updB h, fun b x e => by
    by_cases hb : b = p
    · subst hb; exact .inr (.inl n)
    · rw [upd_ne hb] at e; exact .inl e⟩
/-- .. not shared -/
theorem Step.hid {S H : Hp} {p : Addr} {o : HO} (h : Same S H) (n : H p = none) : Step S H S (upd H p o) :=
  ⟨Same.refl _, same_upd n, h.trans (same_upd n), fun b x e => .inl e⟩
section
variable {K : PySem.W.Frag} {H₀ S₀ : Hp} {M : Addr → Prop} {S S' H H' : Hp} {σ : St} {ρ : Env}
theorem Abs.rebase (a : Abs K H₀ S₀ M S σ H ρ) : Abs K H₀ S M S σ H ρ := ⟨a.len, a.sub, Same.refl _, fun _ _ e => .inl e, a.keep, a.there, a.sh, a.own, a.dis⟩
theorem Abs.unbase {σ' : St} {ρ' : Env} (a : Abs K H₀ S₀ M S σ H ρ) (b : Abs K H₀ S M S' σ' H' ρ') : Abs K H₀ S₀ M S' σ' H' ρ' :=
  ⟨b.len, b.sub, a.base.trans b.base, fun c o e => by
    rcases b.grow c o e with h | h
    · exact a.grow c o h
    · exact .inr h, b.keep, b.there, b.sh, b.own, b.dis⟩
theorem Abs.none0 (a : Abs K H₀ S₀ M S σ H ρ) {b : Addr} (h : H b = none) : H₀ b = none := by
  cases e : H₀ b with
  | none => rfl
  | some o =>
    obtain ⟨o', e'⟩ := a.there b o e
    rw [h] at e'; cases e'
theorem Abs.nt0 (a : Abs K H₀ S₀ M S σ H ρ) {b : Addr} {o : HO} (h : NT H b o) : NT H₀ b o := by
  rcases h with h | h
  · exact .inl (a.none0 h)
  · exact .inr h
theorem Abs.step (a : Abs K H₀ S₀ M S σ H ρ) (t : Step S H S' H') : Abs K H₀ S₀ M S' σ H' ρ where
  len := a.len
  sub := t.sub
  base := a.base.trans t.s
  grow := fun b o e => by
    rcases t.new b o e with h | h
    · exact a.grow b o h
    · exact .inr (a.nt0 h)
  keep := fun b o e n => t.h _ _ (a.keep b o e n)
  there := fun b o e => by
    obtain ⟨o', h⟩ := a.there b o e
    exact ⟨o', t.h _ _ h⟩
  sh := fun i p e => by
    obtain ⟨v, h1, h2⟩ := a.sh i p e
    exact ⟨v, h1, h2.up t.s⟩
  own := fun i s p e e' => by
    obtain ⟨b, o, h1, h2, h3, h4, h5, h6⟩ := a.own i s p e e'
    refine ⟨b, o, h1, h2, h3, ?_, t.h _ _ h5, h6.up t.s⟩
    cases q : S' b with
    | none => rfl
    | some o' =>
      rcases t.new b o' q with z | z | ⟨vs, z⟩
      · rw [h4] at z; cases z
      · rw [h5] at z; cases z
      · subst z
        have z := (t.sub _ _ q).symm.trans (t.h _ _ h5)
        cases z
        exact (OwnO.noTup h6).elim
  dis := a.dis
/-- an owned slot becomes shared -/
theorem Abs.share {i : Nat} {p : PV} (a : Abs K H₀ S₀ M S σ H ρ) (e : ρ[i]? = some (.ow p)) :
    ∃ b S', σ[i]? = some (some (.ref b)) ∧ Same S S' ∧ Abs K H₀ S₀ M S' σ H (ρ.set i (.sh p)) ∧ Rep K S' p (.ref b) := by
  obtain ⟨b, o, h1, h2, h3, h4, h5, h6⟩ := a.own i _ p e rfl
  have hs : Same S (upd S b o) := same_upd h4
  have hr : Rep K (upd S b o) p (.ref b) := (h6.up hs).rep upd_same
  have hi : i < ρ.length := (List.getElem?_eq_some_iff.mp e).1
  refine ⟨b, upd S b o, h1, hs, ?_, hr⟩
  refine ⟨by rw [List.length_set]; exact a.len, fun c o' q => ?_, a.base.trans hs, fun c o' q => ?_, a.keep, a.there, fun j q ej => ?_, fun j s q ej es => ?_, fun j k s t q r c ej es ek et h k' => ?_⟩
  · by_cases hc : c = b
    · subst hc; rw [upd_same] at q; cases q; exact h5
    · rw [upd_ne hc] at q; exact a.sub _ _ q
  · by_cases hc : c = b
    · subst hc; exact .inr (.inl (h2 rfl))
    · rw [upd_ne hc] at q; exact a.grow _ _ q
  · by_cases hj : j = i
    · subst hj
      rw [List.getElem?_set_self hi] at ej
      cases ej
      exact ⟨_, h1, hr⟩
    · rw [List.getElem?_set_ne (Ne.symm hj)] at ej
      obtain ⟨v, z1, z2⟩ := a.sh j q ej
      exact ⟨v, z1, z2.up hs⟩
  · by_cases hj : j = i
    · subst hj
      rw [List.getElem?_set_self hi] at ej
      cases ej
      cases es
    · rw [List.getElem?_set_ne (Ne.symm hj)] at ej
      obtain ⟨c, o', z1, z2, z3, z4, z5, z6⟩ := a.own j s q ej es
      refine ⟨c, o', z1, z2, z3, ?_, z5, z6.up hs⟩
      rw [upd_ne, z4]
      intro hcb
      subst hcb
      exact hj (a.dis j i _ _ _ _ c ej es e rfl z1 h1)
  · by_cases hj : j = i
    · subst hj
      rw [List.getElem?_set_self hi] at ej
      cases ej
      cases es
    · by_cases hk : k = i
      · subst hk
        rw [List.getElem?_set_self hi] at ek
        cases ek
        cases et
      · rw [List.getElem?_set_ne (Ne.symm hj)] at ej
        rw [List.getElem?_set_ne (Ne.symm hk)] at ek
        exact a.dis j k _ _ _ _ c ej es ek et h k'
/-- a slot gets a shared value -/
theorem Abs.setSh {i : Nat} {p : PV} {v : V} (a : Abs K H₀ S₀ M S σ H ρ) (r : Rep K S p v) : Abs K H₀ S₀ M S (σ.set i (some v)) H (ρ.set i (.sh p)) where
  len := by rw [List.length_set, List.length_set]; exact a.len
  sub := a.sub
  base := a.base
  grow := a.grow
  keep := a.keep
  there := a.there
  sh := fun j q ej => by
    by_cases hj : j = i
    · subst hj
      have hi : j < ρ.length := by
        rcases Nat.lt_or_ge j ρ.length with h | h
        · exact h
        · rw [List.getElem?_eq_none (by rw [List.length_set]; exact h)] at ej; cases ej
      rw [List.getElem?_set_self hi] at ej
      cases ej
      exact ⟨v, List.getElem?_set_self (a.len ▸ hi), r⟩
    · rw [List.getElem?_set_ne (Ne.symm hj)] at ej ⊢
      exact a.sh j q ej
  own := fun j s q ej es => by
    by_cases hj : j = i
    · subst hj
      have hi : j < ρ.length := by
        rcases Nat.lt_or_ge j ρ.length with h | h
        · exact h
        · rw [List.getElem?_eq_none (by rw [List.length_set]; exact h)] at ej; cases ej
      rw [List.getElem?_set_self hi] at ej
      cases ej
      cases es
    · rw [List.getElem?_set_ne (Ne.symm hj)] at ej ⊢
      exact a.own j s q ej es
  dis := fun j k s t q r c ej es ek et h k' => by
    have hl1 : ∀ {j : Nat} {s : Sl} {q : PV}, (ρ.set i (.sh p))[j]? = some s → s.own? = some q → j ≠ i := fun {j s q} ej es hj => by
      subst hj
      have hi : j < ρ.length := by
        rcases Nat.lt_or_ge j ρ.length with h | h
        · exact h
        · rw [List.getElem?_eq_none (by rw [List.length_set]; exact h)] at ej; cases ej
      rw [List.getElem?_set_self hi] at ej
      cases ej
      cases es
    have hj := hl1 ej es
    have hk := hl1 ek et
    rw [List.getElem?_set_ne (Ne.symm hj)] at ej h
    rw [List.getElem?_set_ne (Ne.symm hk)] at ek k'
    exact a.dis j k _ _ _ _ c ej es ek et h k'
/-- a fresh object: new since the entry, no slot owns it, not shared -/
def Fr (K : PySem.W.Frag) (H₀ S H : Hp) (σ : St) (ρ : Env) (p : PV) (v : V) : Prop :=
  ∃ a o, v = .ref a ∧ H₀ a = none ∧ S a = none ∧ H a = some o ∧ OwnO K S p o ∧ ∀ (j : Nat) s q, ρ[j]? = some s → s.own? = some q → σ[j]? ≠ some (some (.ref a))
/-- a slot gets a fresh object -/
theorem Abs.setOw {i : Nat} {p : PV} {v : V} (a : Abs K H₀ S₀ M S σ H ρ) (f : Fr K H₀ S H σ ρ p v) : Abs K H₀ S₀ M S (σ.set i (some v)) H (ρ.set i (.ow p)) := by
  obtain ⟨b, o, rfl, f1, f2, f3, f4, f5⟩ := f
  have lt : ∀ {j : Nat} {s : Sl}, (ρ.set i (.ow p))[j]? = some s → j < ρ.length := fun {j s} ej => by
    rcases Nat.lt_or_ge j ρ.length with h | h
    · exact h
    · rw [List.getElem?_eq_none (by rw [List.length_set]; exact h)] at ej; cases ej
  refine ⟨by rw [List.length_set, List.length_set]; exact a.len, a.sub, a.base, a.grow, a.keep, a.there, fun j q ej => ?_, fun j s q ej es => ?_, fun j k s t q r c ej es ek et h k' => ?_⟩
  · by_cases hj : j = i
    · subst hj
      rw [List.getElem?_set_self (lt ej)] at ej
      cases ej
    · rw [List.getElem?_set_ne (Ne.symm hj)] at ej ⊢
      exact a.sh j q ej
  · by_cases hj : j = i
    · subst hj
      have hi := lt ej
      rw [List.getElem?_set_self hi] at ej
      cases ej
      cases es
      exact ⟨b, o, List.getElem?_set_self (a.len ▸ hi), fun _ => f1, (fun z => nomatch z), f2, f3, f4⟩
    · rw [List.getElem?_set_ne (Ne.symm hj)] at ej ⊢
      exact a.own j s q ej es
  · by_cases hj : j = i
    · by_cases hk : k = i
      · rw [hj, hk]
      · subst hj
        have hl := a.len ▸ lt ej
        rw [List.getElem?_set_self hl] at h
        cases h
        rw [List.getElem?_set_ne (Ne.symm hk)] at ek k'
        exact absurd k' (f5 k _ _ ek et)
    · by_cases hk : k = i
      · subst hk
        have hl := a.len ▸ lt ek
        rw [List.getElem?_set_self hl] at k'
        cases k'
        rw [List.getElem?_set_ne (Ne.symm hj)] at ej h
        exact absurd h (f5 j _ _ ej es)
      · rw [List.getElem?_set_ne (Ne.symm hj)] at ej h
        rw [List.getElem?_set_ne (Ne.symm hk)] at ek k'
        exact a.dis j k _ _ _ _ c ej es ek et h k'
/-- an owned object is changed -/
theorem Abs.mut {i : Nat} {s : Sl} {p q : PV} {b : Addr} {o : HO} (a : Abs K H₀ S₀ M S σ H ρ) (e : ρ[i]? = some s) (es : s.own? = some p) (hb : σ[i]? = some (some (.ref b))) (h : OwnO K S q o) :
    Abs K H₀ S₀ M S σ (upd H b o) (ρ.set i (s.with q)) := by
  obtain ⟨b', o', h1, h2, h3, h4, h5, h6⟩ := a.own i s p e es
  rw [hb] at h1
  cases h1
  have hi : i < ρ.length := (List.getElem?_eq_some_iff.mp e).1
  have hw : (s.with q).own? = some q := by
    cases s with
    | ow r => rfl
    | io r => rfl
    | un => cases es
    | sh r => cases es
  have hn : ∀ c o', S c = some o' → c ≠ b := fun c o' z y => by subst y; rw [h4] at z; cases z
  have hM : ¬ M b → H₀ b = none := fun hM => by
    cases s with
    | ow r => cases es; exact h2 rfl
    | io r => cases es; exact absurd (h3 rfl) hM
    | un => cases es
    | sh r => cases es
  refine ⟨by rw [List.length_set]; exact a.len, fun c o' z => ?_, a.base, a.grow, fun c o' z n => ?_, fun c o' z => ?_, fun j r ej => ?_, fun j t r ej et => ?_, fun j k t u r r' c ej et ek eu z z' => ?_⟩
  · rw [upd_ne (hn c o' z)]; exact a.sub _ _ z
  · by_cases hc : c = b
    · subst hc; rw [hM n] at z; cases z
    · rw [upd_ne hc]; exact a.keep _ _ z n
  · by_cases hc : c = b
    · subst hc; exact ⟨o, upd_same⟩
    · rw [upd_ne hc]; exact a.there _ _ z
  · by_cases hj : j = i
    · subst hj
      rw [List.getElem?_set_self hi] at ej
      have z := Option.some.inj ej
      rw [z] at hw; cases hw
    · rw [List.getElem?_set_ne (Ne.symm hj)] at ej
      exact a.sh j r ej
  · by_cases hj : j = i
    · subst hj
      rw [List.getElem?_set_self hi] at ej
      have z := Option.some.inj ej
      subst z
      rw [hw] at et
      cases et
      refine ⟨b, o, hb, fun z => ?_, fun z => ?_, h4, upd_same, h⟩
      · cases s with
        | ow r => cases es; exact h2 rfl
        | io r => cases z
        | un => cases es
        | sh r => cases es
      · cases s with
        | io r => cases es; exact h3 rfl
        | ow r => cases z
        | un => cases es
        | sh r => cases es
    · rw [List.getElem?_set_ne (Ne.symm hj)] at ej
      obtain ⟨c, o', z1, z2, z3, z4, z5, z6⟩ := a.own j t r ej et
      refine ⟨c, o', z1, z2, z3, z4, ?_, z6⟩
      rw [upd_ne, z5]
      intro hcb
      subst hcb
      exact hj (a.dis j i _ _ _ _ c ej et e es z1 hb)
  · have key : ∀ {j : Nat} {t : Sl} {r : PV}, (ρ.set i (s.with q))[j]? = some t → t.own? = some r → ∃ t' r', ρ[j]? = some t' ∧ t'.own? = some r' := fun {j t r} ej et => by
      by_cases hj : j = i
      · subst hj; exact ⟨s, p, e, es⟩
      · rw [List.getElem?_set_ne (Ne.symm hj)] at ej; exact ⟨t, r, ej, et⟩
    obtain ⟨t1, r1, e1, e2⟩ := key ej et
    obtain ⟨t2, r2, e3, e4⟩ := key ek eu
    exact a.dis j k _ _ _ _ c e1 e2 e3 e4 z z'
/-- what is fresh is shared -/
theorem Abs.shareFr {p : PV} {v : V} (a : Abs K H₀ S₀ M S σ H ρ) (f : Fr K H₀ S H σ ρ p v) : ∃ S', Same S S' ∧ Abs K H₀ S₀ M S' σ H ρ ∧ Rep K S' p v := by
  obtain ⟨b, o, rfl, f1, f2, f3, f4, f5⟩ := f
  have hs : Same S (upd S b o) := same_upd f2
  refine ⟨upd S b o, hs, ⟨a.len, fun c o' q => ?_, a.base.trans hs, fun c o' q => ?_, a.keep, a.there, fun j q ej => ?_, fun j s q ej es => ?_, a.dis⟩, (f4.up hs).rep upd_same⟩
  · by_cases hc : c = b
    · subst hc; rw [upd_same] at q; cases q; exact f3
    · rw [upd_ne hc] at q; exact a.sub _ _ q
  · by_cases hc : c = b
    · subst hc; exact .inr (.inl f1)
    · rw [upd_ne hc] at q; exact a.grow _ _ q
  · obtain ⟨v, z1, z2⟩ := a.sh j q ej
    exact ⟨v, z1, z2.up hs⟩
  · obtain ⟨c, o', z1, z2, z3, z4, z5, z6⟩ := a.own j s q ej es
    refine ⟨c, o', z1, z2, z3, ?_, z5, z6.up hs⟩
    rw [upd_ne, z4]
    intro hcb
    subst hcb
    exact f5 j s q ej es z1
/-- a new object, fresh -/
theorem Abs.fresh {b : Addr} {o : HO} {p : PV} (a : Abs K H₀ S₀ M S σ H ρ) (n : H b = none) (h : OwnO K S p o) : Abs K H₀ S₀ M S σ (upd H b o) ρ ∧ Fr K H₀ S (upd H b o) σ ρ p (.ref b) := by
  refine ⟨a.step (Step.hid a.sub n), b, o, rfl, a.none0 n, a.sub.free n, upd_same, h, fun j s q ej es z => ?_⟩
  obtain ⟨c, o', z1, _, _, _, z5, _⟩ := a.own j s q ej es
  rw [z] at z1
  cases z1
  rw [n] at z5; cases z5
end
end PL

set_option Elab.async false
set_option linter.all false
set_option maxRecDepth 100000
set_option maxHeartbeats 4000000
namespace PL
open PySem PySem.Spec L2
set_option autoImplicit false

structure Exn where
  cls : Str
  fld : Str
  val : PV
inductive Rs (α : Type) where
  | bad | exc (x : Exn) (ρ : Env) | ok (a : α) (ρ : Env)
def Rs.bind {α β : Type} (r : Rs α) (k : α → Env → Rs β) : Rs β := match r with
  | .bad => .bad
  | .exc x ρ => .exc x ρ
  | .ok a ρ => k a ρ
def opt {α : Type} : Option α → Env → Rs α
  | some a, ρ => .ok a ρ
  | none, _ => .bad
abbrev Den := Env → Rs PV
abbrev DenB := Env → Rs Bool
abbrev DenL := Env → Rs (List PV)
@[simp] theorem bind_ok {α β : Type} (a : α) (ρ : Env) (k : α → Env → Rs β) : (Rs.ok a ρ).bind k = k a ρ := id rfl
@[simp] theorem bind_exc {α β : Type} (x : Exn) (ρ : Env) (k : α → Env → Rs β) : (Rs.exc x ρ).bind k = .exc x ρ := id rfl
@[simp] theorem bind_bad {α β : Type} (k : α → Env → Rs β) : (Rs.bad : Rs α).bind k = .bad := id rfl
@[simp] theorem opt_some {α : Type} (a : α) (ρ : Env) : opt (some a) ρ = .ok a ρ := id rfl
@[simp] theorem opt_none {α : Type} (ρ : Env) : opt (none : Option α) ρ = .bad := id rfl

/-- an exception as it lies -/
def ExcRep (K : PySem.W.Frag) (mg : Str → Option Value) (S H : Hp) (x : Exn) (cls : Value) (d : Option Addr) : Prop :=
  ∃ (C dx : Addr) (v : V), mg x.cls = some (.ref C) ∧ cls = .ref C ∧ d = some dx ∧ H dx = some (.xd [(x.fld, v)]) ∧ Rep K S x.val v

abbrev RelT (α β : Type) := Hp → Hp → Hp → St → Env → α → β → Prop
def Post {α β : Type} (K : PySem.W.Frag) (mg : Str → Option Value) (W : WX) (Rl : RelT α β) (H₀ S₀ : Hp) (M : Addr → Prop) (σ : St) (r : Rs α) (Q : β → Hp → Prop) : Prop :=
  match r with
  | .bad => False
  | .exc x ρ' => ∀ cls dd S' H', Abs K H₀ S₀ M S' σ H' ρ' → ExcRep K mg S' H' x cls dd → W cls dd σ H'
  | .ok a ρ' => ∀ b S' H', Abs K H₀ S₀ M S' σ H' ρ' → Rl H₀ S' H' σ ρ' a b → Q b H'
def XOk {α β : Type} (K : PySem.W.Frag) (mg : Str → Option Value) (W : WX) (Rl : RelT α β) (t : St → Hp → (β → Hp → Prop) → Prop) (d : Env → Rs α) : Prop :=
  ∀ (H₀ S₀ : Hp) (M : Addr → Prop) (S : Hp) (σ : St) (H : Hp) (ρ : Env) (Q : β → Hp → Prop), Abs K H₀ S₀ M S σ H ρ → Post K mg W Rl H₀ S₀ M σ (d ρ) Q → t σ H Q
def rV (K : PySem.W.Frag) : RelT PV V := fun _ S _ _ _ p v => Rep K S p v
def rF (K : PySem.W.Frag) : RelT PV V := fun H₀ S H σ ρ p v => Fr K H₀ S H σ ρ p v
def rB : RelT Bool Bool := fun _ _ _ _ _ a b => b = a
def rL (K : PySem.W.Frag) : RelT (List PV) (List V) := fun _ S _ _ _ ps vs => RepL K S ps vs

section
variable {K : PySem.W.Frag} {mg : Str → Option Value} {W : WX} {H₀ S₀ : Hp} {M : Addr → Prop} {S H : Hp} {σ : St} {ρ : Env}
theorem XOk.bind {α β γ δ : Type} {Rl : RelT α β} {Rl' : RelT γ δ} {t : St → Hp → (β → Hp → Prop) → Prop} {d : Env → Rs α} (h : XOk K mg W Rl t d) (ab : Abs K H₀ S₀ M S σ H ρ) {k : α → Env → Rs γ} {Q : δ → Hp → Prop} {Q1 : β → Hp → Prop}
    (hp : Post K mg W Rl' H₀ S₀ M σ ((d ρ).bind k) Q)
    (hk : ∀ a ρ1 b S1 H1, d ρ = .ok a ρ1 → Abs K H₀ S₀ M S1 σ H1 ρ1 → Same S S1 → Rl H₀ S1 H1 σ ρ1 a b → Post K mg W Rl' H₀ S₀ M σ (k a ρ1) Q → Q1 b H1) : t σ H Q1 := by
  refine h H₀ S M S σ H ρ Q1 ab.rebase ?_
  cases e : d ρ with
  | bad => rw [e] at hp; exact hp
  | exc x ρ1 =>
    rw [e] at hp
    exact fun cls dd S' H' a1 r => hp cls dd S' H' (ab.unbase a1) r
  | ok a ρ1 =>
    rw [e] at hp
    exact fun b S1 H1 a1 r => hk a ρ1 b S1 H1 e (ab.unbase a1) a1.base r hp
/-- fresh is shared -/
theorem XOk.shared {t : TE} {d : Den} (h : XOk K mg W (rF K) t d) : XOk K mg W (rV K) t d := by
  intro H₀ S₀ M S σ H ρ Q ab hp
  refine h H₀ S₀ M S σ H ρ Q ab ?_
  cases e : d ρ with
  | bad => rw [e] at hp; exact hp
  | exc x ρ1 => rw [e] at hp; exact hp
  | ok a ρ1 =>
    rw [e] at hp
    intro b S1 H1 a1 f
    obtain ⟨S2, s2, a2, r2⟩ := a1.shareFr f
    exact hp b S2 H1 a2 r2
end

/-! ### operations by values -/
def V2 (K : PySem.W.Frag) (r : R2) (g : PV → PV → Option PV) : Prop :=
  ∀ (S H : Hp) (x y : V) (p q z : PV) (Q : VK), Same S H → Rep K S p x → Rep K S q y → g p q = some z → (∀ v S' H', Step S H S' H' → Rep K S' z v → Q v H') → r x y H Q
def V2F (K : PySem.W.Frag) (r : R2) (g : PV → PV → Option PV) : Prop :=
  ∀ (S H : Hp) (x y : V) (p q z : PV) (Q : VK), Same S H → Rep K S p x → Rep K S q y → g p q = some z → (∀ a o, H a = none → OwnO K S z o → Q (.ref a) (upd H a o)) → r x y H Q
def V1 (K : PySem.W.Frag) (r : V → Hp → VK → Prop) (g : PV → Option PV) : Prop :=
  ∀ (S H : Hp) (x : V) (p z : PV) (Q : VK), Same S H → Rep K S p x → g p = some z → (∀ v S' H', Step S H S' H' → Rep K S' z v → Q v H') → r x H Q
def VN (K : PySem.W.Frag) (r : List V → Hp → VK → Prop) (g : List PV → Option PV) : Prop :=
  ∀ (S H : Hp) (xs : List V) (ps : List PV) (z : PV) (Q : VK), Same S H → RepL K S ps xs → g ps = some z → (∀ v S' H', Step S H S' H' → Rep K S' z v → Q v H') → r xs H Q
def VNF (K : PySem.W.Frag) (r : List V → Hp → VK → Prop) (g : List PV → Option PV) : Prop :=
  ∀ (S H : Hp) (xs : List V) (ps : List PV) (z : PV) (Q : VK), Same S H → RepL K S ps xs → g ps = some z → (∀ a o, H a = none → OwnO K S z o → Q (.ref a) (upd H a o)) → r xs H Q
/-- the truth of a value -/
def VT (K : PySem.W.Frag) (r : V → Hp → (Bool → Hp → Prop) → Prop) (g : PV → Option Bool) : Prop :=
  ∀ (S H : Hp) (x : V) (p : PV) (z : Bool) (Q : Bool → Hp → Prop), Same S H → Rep K S p x → g p = some z → Q z H → r x H Q
theorem own_new {K : PySem.W.Frag} {S H : Hp} {a : Addr} {o : HO} {z : PV} (s : Same S H) (n : H a = none) (h : OwnO K S z o) : Step S H (upd S a o) (upd H a o) ∧ Rep K (upd S a o) z (.ref a) :=
  ⟨Step.new1 s n, (h.up (same_upd (Same.free s n))).rep upd_same⟩
theorem V2F.v2 {K : PySem.W.Frag} {r : R2} {g : PV → PV → Option PV} (h : V2F K r g) : V2 K r g := fun S H x y p q z Q s rx ry e k => h S H x y p q z Q s rx ry e fun a o n w => k _ _ _ (own_new s n w).1 (own_new s n w).2
theorem VNF.vn {K : PySem.W.Frag} {r : List V → Hp → VK → Prop} {g : List PV → Option PV} (h : VNF K r g) : VN K r g := fun S H xs ps z Q s rx e k => h S H xs ps z Q s rx e fun a o n w => k _ _ _ (own_new s n w).1 (own_new s n w).2
def PV.sc : PV → Bool
  | .non => true
  | .bl _ => true
  | .int _ => true
  | .str _ => true
  | _ => false
theorem Rep.sc {K : PySem.W.Frag} {S S' : Hp} {p : PV} {v : V} (h : Rep K S p v) (e : p.sc = true) : Rep K S' p v := by
  cases p with
  | non => cases h; exact .non
  | bl b => cases h; exact .bl b
  | int i => cases h; exact .int i
  | str x => cases h; exact .str x
  | _ => cases e

/-! ### denotations of expressions -/
def dC (p : PV) : Den := fun ρ => .ok p ρ
def dVar (i : Nat) : Den := fun ρ => match ρ[i]? with
  | some (.sh p) => .ok p ρ
  | some (.ow p) => .ok p (ρ.set i (.sh p))
  | _ => .bad
def Sl.pv? : Sl → Option PV
  | .sh p => some p
  | .ow p => some p
  | .io p => some p
  | .un => none
/-- what the slot holds -/
def slot (ρ : Env) (i : Nat) : Option PV := (ρ[i]?).bind Sl.pv?
def d1 (g : PV → Option PV) (da : Den) : Den := fun ρ => (da ρ).bind fun p ρ1 => opt (g p) ρ1
def d2 (g : PV → PV → Option PV) (da db : Den) : Den := fun ρ => (da ρ).bind fun p ρ1 => (db ρ1).bind fun q ρ2 => opt (g p q) ρ2
/-- the left one a slot that is only looked at -/
def d2l (g : PV → PV → Option PV) (i : Nat) (db : Den) : Den := fun ρ => match slot ρ i with
  | none => .bad
  | some _ => (db ρ).bind fun q ρ1 => match slot ρ1 i with
    | none => .bad
    | some p => opt (g p q) ρ1
def d2r (g : PV → PV → Option PV) (da : Den) (i : Nat) : Den := fun ρ => (da ρ).bind fun p ρ1 => match slot ρ1 i with
    | none => .bad
    | some q => opt (g p q) ρ1
def d2b (g : PV → PV → Option PV) (i j : Nat) : Den := fun ρ => match slot ρ i, slot ρ j with
    | some p, some q => opt (g p q) ρ
    | _, _ => .bad
def d1v (g : PV → Option PV) (i : Nat) : Den := fun ρ => match slot ρ i with
    | some p => opt (g p) ρ
    | _ => .bad
def dNil : DenL := fun ρ => .ok [] ρ
def dCons (da : Den) (dr : DenL) : DenL := fun ρ => (da ρ).bind fun p ρ1 => (dr ρ1).bind fun ps ρ2 => .ok (p :: ps) ρ2
def dN (g : List PV → Option PV) (da : DenL) : Den := fun ρ => (da ρ).bind fun ps ρ1 => opt (g ps) ρ1
def dIf (dc : DenB) (da db : Den) : Den := fun ρ => (dc ρ).bind fun b ρ1 => if b = true then da ρ1 else db ρ1
/-- tests -/
def bAnd (da db : DenB) : DenB := fun ρ => (da ρ).bind fun b ρ1 => if b = true then db ρ1 else .ok false ρ1
def bOr (da db : DenB) : DenB := fun ρ => (da ρ).bind fun b ρ1 => if b = true then .ok true ρ1 else db ρ1
def bNot (da : DenB) : DenB := fun ρ => (da ρ).bind fun b ρ1 => .ok (!b) ρ1
def PV.bool? : PV → Option Bool
  | .bl b => some b
  | _ => none
/-- a value that is a bool, as a test -/
def bVal (da : Den) : DenB := fun ρ => (da ρ).bind fun p ρ1 => opt p.bool? ρ1
def truth : PV → Option Bool
  | .non => some false
  | .bl b => some b
  | .int i => some (i != 0)
  | .str x => if x.length ≤ sizeLine then some ((x.length : Int) != 0) else none
  | .lst ps => some (!ps.isEmpty)
  | .tup ps => some (!ps.isEmpty)
  | .ktup ps => some (!ps.isEmpty)
  | .klst ps => some (!ps.isEmpty)
  | .dic _ _ _ => none
  | .fn _ => none
def bTru (da : Den) : DenB := fun ρ => (da ρ).bind fun p ρ1 => opt (truth p) ρ1
def bTruV (i : Nat) : DenB := fun ρ => match slot ρ i with
  | some p => opt (truth p) ρ
  | none => .bad

section
variable {K : PySem.W.Frag} {mg : Str → Option Value} {W : WX}
abbrev EOk (K : PySem.W.Frag) (mg : Str → Option Value) (W : WX) (t : TE) (d : Den) : Prop := XOk K mg W (rV K) t d
abbrev FOk (K : PySem.W.Frag) (mg : Str → Option Value) (W : WX) (t : TE) (d : Den) : Prop := XOk K mg W (rF K) t d
abbrev TOk (K : PySem.W.Frag) (mg : Str → Option Value) (W : WX) (t : TT) (d : DenB) : Prop := XOk K mg W rB t d
abbrev AOk (K : PySem.W.Frag) (mg : Str → Option Value) (W : WX) (t : TA) (d : DenL) : Prop := XOk K mg W (rL K) t d

theorem eo_c {p : PV} {v : V} (h : ∀ S, Rep K S p v) : EOk K mg W (tC v) (dC p) := fun H₀ S₀ M S σ H ρ Q ab hp => hp v S H ab (h S)
theorem eo_var {i : Nat} : EOk K mg W (tVar i) (dVar i) := by
  intro H₀ S₀ M S σ H ρ Q ab hp
  unfold dVar at hp
  cases e : ρ[i]? with
  | none => rw [e] at hp; exact hp.elim
  | some s =>
    rw [e] at hp
    cases s with
    | un => exact hp.elim
    | io p => exact hp.elim
    | sh p =>
      obtain ⟨v, h1, h2⟩ := ab.sh i p e
      exact ⟨v, h1, hp v S H ab h2⟩
    | ow p =>
      obtain ⟨b, S', h1, h2, h3, h4⟩ := ab.share e
      exact ⟨.ref b, h1, hp _ S' H h3 h4⟩
theorem Abs.look {H₀ S₀ : Hp} {M : Addr → Prop} {S H : Hp} {σ : St} {ρ : Env} {i : Nat} {p : PV} (a : Abs K H₀ S₀ M S σ H ρ) (e : slot ρ i = some p) :
    ∃ v S', σ[i]? = some (some v) ∧ Same S S' ∧ Same S' H ∧ Rep K S' p v := by
  unfold slot at e
  cases e1 : ρ[i]? with
  | none => rw [e1] at e; cases e
  | some s =>
    rw [e1] at e
    cases s with
    | un => cases e
    | sh q =>
      cases e
      obtain ⟨v, h1, h2⟩ := a.sh i _ e1
      exact ⟨v, S, h1, Same.refl _, a.sub, h2⟩
    | ow q =>
      cases e
      obtain ⟨b, o, h1, h2, h3, h4, h5, h6⟩ := a.own i _ _ e1 rfl
      refine ⟨.ref b, upd S b o, h1, same_upd h4, fun c o' z => ?_, (h6.up (same_upd h4)).rep upd_same⟩
      by_cases hc : c = b
      · subst hc; rw [upd_same] at z; cases z; exact h5
      · rw [upd_ne hc] at z; exact a.sub _ _ z
    | io q =>
      cases e
      obtain ⟨b, o, h1, h2, h3, h4, h5, h6⟩ := a.own i _ _ e1 rfl
      refine ⟨.ref b, upd S b o, h1, same_upd h4, fun c o' z => ?_, (h6.up (same_upd h4)).rep upd_same⟩
      by_cases hc : c = b
      · subst hc; rw [upd_same] at z; cases z; exact h5
      · rw [upd_ne hc] at z; exact a.sub _ _ z
/-- the two slots looked at together -/
theorem Abs.look2 {H₀ S₀ : Hp} {M : Addr → Prop} {S H : Hp} {σ : St} {ρ : Env} {i j : Nat} {p q : PV} (a : Abs K H₀ S₀ M S σ H ρ) (e : slot ρ i = some p) (e' : slot ρ j = some q) :
    ∃ v u S', σ[i]? = some (some v) ∧ σ[j]? = some (some u) ∧ Same S S' ∧ Same S' H ∧ Rep K S' p v ∧ Rep K S' q u := by
  obtain ⟨v, S1, h1, h2, h3, h4⟩ := a.look e
  obtain ⟨u, S2, k1, k2, k3, k4⟩ := a.look e'
  refine ⟨v, u, fun b => match S1 b with | some o => some o | none => S2 b, h1, k1, fun b o z => ?_, fun b o z => ?_, h4.up fun b o z => ?_, k4.up fun b o z => ?_⟩
  · simp only [h2 b o z]
  · cases e1 : S1 b with
    | some o' => simp only [e1] at z; rw [← z]; exact h3 b o' e1
    | none => simp only [e1] at z; exact k3 b o z
  · simp only [z]
  · cases e1 : S1 b with
    | some o' =>
      have z1 := h3 b o' e1
      rw [k3 b o z] at z1
      simp only [e1]; exact z1.symm
    | none => simp only [e1]; exact z
theorem step_of {S S' H S2 H2 : Hp} (s : Same S H) (t : Step S' H S2 H2) : Step S H S H2 := ⟨Same.refl _, t.h, s.trans t.h, fun _ _ e => .inl e⟩
theorem eo_1 {ta : TE} {da : Den} {r : V → Hp → VK → Prop} {g : PV → Option PV} (ha : EOk K mg W ta da) (hr : V1 K r g) : EOk K mg W (tUn r ta) (d1 g da) := by
  intro H₀ S₀ M S σ H ρ Q ab hp
  refine ha.bind (Rl' := rV K) ab hp fun p ρ1 v S1 H1 _ a1 _ r1 hp => ?_
  cases e : g p with
  | none => rw [e] at hp; exact hp.elim
  | some z =>
    rw [e] at hp
    exact hr S1 H1 v p z Q a1.sub r1 e fun v' S2 H2 st rz => hp v' S2 H2 (a1.step st) rz
theorem eo_2 {ta tb : TE} {da db : Den} {r : R2} {g : PV → PV → Option PV} (ha : EOk K mg W ta da) (hb : EOk K mg W tb db) (hr : V2 K r g) : EOk K mg W (tOp r ta tb) (d2 g da db) := by
  intro H₀ S₀ M S σ H ρ Q ab hp
  refine ha.bind (Rl' := rV K) ab hp fun p ρ1 v S1 H1 _ a1 _ r1 hp => ?_
  refine hb.bind (Rl' := rV K) a1 hp fun q ρ2 u S2 H2 _ a2 s2 r2 hp => ?_
  cases e : g p q with
  | none => rw [e] at hp; exact hp.elim
  | some z =>
    rw [e] at hp
    exact hr S2 H2 v u p q z Q a2.sub (r1.up s2) r2 e fun v' S3 H3 st rz => hp v' S3 H3 (a2.step st) rz
theorem fo_2 {ta tb : TE} {da db : Den} {r : R2} {g : PV → PV → Option PV} (ha : EOk K mg W ta da) (hb : EOk K mg W tb db) (hr : V2F K r g) : FOk K mg W (tOp r ta tb) (d2 g da db) := by
  intro H₀ S₀ M S σ H ρ Q ab hp
  refine ha.bind (Rl' := rF K) ab hp fun p ρ1 v S1 H1 _ a1 _ r1 hp => ?_
  refine hb.bind (Rl' := rF K) a1 hp fun q ρ2 u S2 H2 _ a2 s2 r2 hp => ?_
  cases e : g p q with
  | none => rw [e] at hp; exact hp.elim
  | some z =>
    rw [e] at hp
    exact hr S2 H2 v u p q z Q a2.sub (r1.up s2) r2 e fun a o n w => hp _ S2 _ (a2.fresh n w).1 (a2.fresh n w).2
theorem eo_2l {i : Nat} {tb : TE} {db : Den} {r : R2} {g : PV → PV → Option PV} (hb : EOk K mg W tb db) (hr : V2 K r g) (hs : ∀ p q z, g p q = some z → z.sc = true) : EOk K mg W (tOp r (tVar i) tb) (d2l g i db) := by
  intro H₀ S₀ M S σ H ρ Q ab hp
  unfold d2l at hp
  cases e0 : slot ρ i with
  | none => rw [e0] at hp; exact hp.elim
  | some p0 =>
    rw [e0] at hp
    obtain ⟨v, _, hv, _⟩ := ab.look e0
    refine ⟨v, hv, ?_⟩
    refine hb.bind (Rl' := rV K) ab hp fun q ρ1 u S1 H1 _ a1 _ r1 hp => ?_
    cases e1 : slot ρ1 i with
    | none => rw [e1] at hp; exact hp.elim
    | some p =>
      rw [e1] at hp
      obtain ⟨v', S2, hv', s2, s3, r2⟩ := a1.look e1
      rw [hv] at hv'
      cases hv'
      cases e : g p q with
      | none => simp only [e] at hp; exact hp.elim
      | some z =>
        simp only [e] at hp
        exact hr S2 H1 v u p q z Q s3 r2 (r1.up s2) e fun v' S3 H3 st rz => hp v' S1 H3 (a1.step (step_of a1.sub st)) (rz.sc (hs _ _ _ e))
theorem eo_2r {i : Nat} {ta : TE} {da : Den} {r : R2} {g : PV → PV → Option PV} (ha : EOk K mg W ta da) (hr : V2 K r g) (hs : ∀ p q z, g p q = some z → z.sc = true) : EOk K mg W (tOp r ta (tVar i)) (d2r g da i) := by
  intro H₀ S₀ M S σ H ρ Q ab hp
  refine ha.bind (Rl' := rV K) ab hp fun p ρ1 v S1 H1 _ a1 _ r1 hp => ?_
  cases e1 : slot ρ1 i with
  | none => rw [e1] at hp; exact hp.elim
  | some q =>
    rw [e1] at hp
    obtain ⟨u, S2, hv', s2, s3, r2⟩ := a1.look e1
    refine ⟨u, hv', ?_⟩
    cases e : g p q with
    | none => simp only [e] at hp; exact hp.elim
    | some z =>
      simp only [e] at hp
      exact hr S2 H1 v u p q z Q s3 (r1.up s2) r2 e fun v' S3 H3 st rz => hp v' S1 H3 (a1.step (step_of a1.sub st)) (rz.sc (hs _ _ _ e))
theorem eo_2b {i j : Nat} {r : R2} {g : PV → PV → Option PV} (hr : V2 K r g) (hs : ∀ p q z, g p q = some z → z.sc = true) : EOk K mg W (tOp r (tVar i) (tVar j)) (d2b g i j) := by
  intro H₀ S₀ M S σ H ρ Q ab hp
  unfold d2b at hp
  cases e0 : slot ρ i with
  | none => rw [e0] at hp; exact hp.elim
  | some p =>
    cases e1 : slot ρ j with
    | none => rw [e0, e1] at hp; exact hp.elim
    | some q =>
      rw [e0, e1] at hp
      obtain ⟨v, u, S2, hv, hu, s2, s3, r1, r2⟩ := ab.look2 e0 e1
      refine ⟨v, hv, u, hu, ?_⟩
      cases e : g p q with
      | none => simp only [e] at hp; exact hp.elim
      | some z =>
        simp only [e] at hp
        exact hr S2 H v u p q z Q s3 r1 r2 e fun v' S3 H3 st rz => hp v' S H3 (ab.step (step_of ab.sub st)) (rz.sc (hs _ _ _ e))
theorem eo_1v {i : Nat} {r : V → Hp → VK → Prop} {g : PV → Option PV} (hr : V1 K r g) (hs : ∀ p z, g p = some z → z.sc = true) : EOk K mg W (tUn r (tVar i)) (d1v g i) := by
  intro H₀ S₀ M S σ H ρ Q ab hp
  unfold d1v at hp
  cases e0 : slot ρ i with
  | none => rw [e0] at hp; exact hp.elim
  | some p =>
    rw [e0] at hp
    obtain ⟨v, S2, hv, s2, s3, r2⟩ := ab.look e0
    refine ⟨v, hv, ?_⟩
    cases e : g p with
    | none => simp only [e] at hp; exact hp.elim
    | some z =>
      simp only [e] at hp
      exact hr S2 H v p z Q s3 r2 e fun v' S3 H3 st rz => hp v' S H3 (ab.step (step_of ab.sub st)) (rz.sc (hs _ _ e))
theorem ao_nil : AOk K mg W tNil dNil := fun H₀ S₀ M S σ H ρ Q ab hp => hp [] S H ab .nil
theorem ao_cons {ta : TE} {da : Den} {tr : TA} {dr : DenL} (ha : EOk K mg W ta da) (hr : AOk K mg W tr dr) : AOk K mg W (tCons ta tr) (dCons da dr) := by
  intro H₀ S₀ M S σ H ρ Q ab hp
  refine ha.bind (Rl' := rL K) ab hp fun p ρ1 v S1 H1 _ a1 _ r1 hp => ?_
  refine hr.bind (Rl' := rL K) a1 hp fun ps ρ2 vs S2 H2 _ a2 s2 r2 hp => ?_
  exact hp _ S2 H2 a2 (.cons (r1.up s2) r2)
theorem eo_n {ta : TA} {da : DenL} {r : List V → Hp → VK → Prop} {g : List PV → Option PV} (ha : AOk K mg W ta da) (hr : VN K r g) : EOk K mg W (tCB r ta) (dN g da) := by
  intro H₀ S₀ M S σ H ρ Q ab hp
  refine ha.bind (Rl' := rV K) ab hp fun p ρ1 v S1 H1 _ a1 _ r1 hp => ?_
  cases e : g p with
  | none => rw [e] at hp; exact hp.elim
  | some z =>
    rw [e] at hp
    exact hr S1 H1 v p z Q a1.sub r1 e fun v' S2 H2 st rz => hp v' S2 H2 (a1.step st) rz
theorem fo_n {ta : TA} {da : DenL} {r : List V → Hp → VK → Prop} {g : List PV → Option PV} (ha : AOk K mg W ta da) (hr : VNF K r g) : FOk K mg W (tCB r ta) (dN g da) := by
  intro H₀ S₀ M S σ H ρ Q ab hp
  refine ha.bind (Rl' := rF K) ab hp fun p ρ1 v S1 H1 _ a1 _ r1 hp => ?_
  cases e : g p with
  | none => rw [e] at hp; exact hp.elim
  | some z =>
    rw [e] at hp
    exact hr S1 H1 v p z Q a1.sub r1 e fun a o n w => hp _ S1 _ (a1.fresh n w).1 (a1.fresh n w).2
/-- one argument, a slot that is only looked at -/
theorem eo_nv {i : Nat} {r : List V → Hp → VK → Prop} {g : List PV → Option PV} (hr : VN K r g) (hs : ∀ p z, g [p] = some z → z.sc = true) : EOk K mg W (tCB r (tCons (tVar i) tNil)) (d1v (fun p => g [p]) i) := by
  intro H₀ S₀ M S σ H ρ Q ab hp
  unfold d1v at hp
  cases e0 : slot ρ i with
  | none => rw [e0] at hp; exact hp.elim
  | some p =>
    rw [e0] at hp
    obtain ⟨v, S2, hv, s2, s3, r2⟩ := ab.look e0
    refine ⟨v, hv, ?_⟩
    cases e : g [p] with
    | none => simp only [e] at hp; exact hp.elim
    | some z =>
      simp only [e] at hp
      exact hr S2 H [v] [p] z Q s3 (.cons r2 .nil) e fun v' S3 H3 st rz => hp v' S H3 (ab.step (step_of ab.sub st)) (rz.sc (hs _ _ e))
theorem eo_if {tc : TT} {dc : DenB} {ta tb : TE} {da db : Den} (hc : TOk K mg W tc dc) (ha : EOk K mg W ta da) (hb : EOk K mg W tb db) : EOk K mg W (tIf tc ta tb) (dIf dc da db) := by
  intro H₀ S₀ M S σ H ρ Q ab hp
  refine hc.bind (Rl' := rV K) ab hp fun c ρ1 b S1 H1 _ a1 _ r1 hp => ?_
  cases r1
  cases c with
  | true => exact ha H₀ S₀ M S1 σ H1 ρ1 Q a1 hp
  | false => exact hb H₀ S₀ M S1 σ H1 ρ1 Q a1 hp
theorem to_and {ta tb : TT} {da db : DenB} (ha : TOk K mg W ta da) (hb : TOk K mg W tb db) : TOk K mg W (tAnd ta tb) (bAnd da db) := by
  intro H₀ S₀ M S σ H ρ Q ab hp
  refine ha.bind (Rl' := rB) ab hp fun c ρ1 b S1 H1 _ a1 _ r1 hp => ?_
  cases r1
  cases c with
  | true => exact hb H₀ S₀ M S1 σ H1 ρ1 Q a1 hp
  | false => exact hp false S1 H1 a1 rfl
theorem to_or {ta tb : TT} {da db : DenB} (ha : TOk K mg W ta da) (hb : TOk K mg W tb db) : TOk K mg W (tOr ta tb) (bOr da db) := by
  intro H₀ S₀ M S σ H ρ Q ab hp
  refine ha.bind (Rl' := rB) ab hp fun c ρ1 b S1 H1 _ a1 _ r1 hp => ?_
  cases r1
  cases c with
  | true => exact hp true S1 H1 a1 rfl
  | false => exact hb H₀ S₀ M S1 σ H1 ρ1 Q a1 hp
theorem to_not {ta : TT} {da : DenB} (ha : TOk K mg W ta da) : TOk K mg W (tNot ta) (bNot da) := by
  intro H₀ S₀ M S σ H ρ Q ab hp
  refine ha.bind (Rl' := rB) ab hp fun c ρ1 b S1 H1 _ a1 _ r1 hp => ?_
  cases r1
  exact hp _ S1 H1 a1 rfl
theorem to_val {ta : TE} {da : Den} (ha : EOk K mg W ta da) : TOk K mg W (tTest ta) (bVal da) := by
  intro H₀ S₀ M S σ H ρ Q ab hp
  refine ha.bind (Rl' := rB) ab hp fun p ρ1 v S1 H1 _ a1 _ r1 hp => ?_
  cases p with
  | bl b =>
    cases r1
    exact ⟨b, rfl, hp b S1 H1 a1 rfl⟩
  | _ => exact hp.elim
theorem to_tru {ta : TE} {da : Den} {r : V → Hp → (Bool → Hp → Prop) → Prop} (ha : EOk K mg W ta da) (hr : VT K r truth) : TOk K mg W (fun σ H Q => ta σ H fun x H' => r x H' Q) (bTru da) := by
  intro H₀ S₀ M S σ H ρ Q ab hp
  refine ha.bind (Rl' := rB) ab hp fun p ρ1 v S1 H1 _ a1 _ r1 hp => ?_
  cases e : truth p with
  | none => rw [e] at hp; exact hp.elim
  | some z =>
    rw [e] at hp
    exact hr S1 H1 v p z Q a1.sub r1 e (hp z S1 H1 a1 rfl)
theorem to_truv {i : Nat} {r : V → Hp → (Bool → Hp → Prop) → Prop} (hr : VT K r truth) : TOk K mg W (fun σ H Q => tVar i σ H fun x H' => r x H' Q) (bTruV i) := by
  intro H₀ S₀ M S σ H ρ Q ab hp
  unfold bTruV at hp
  cases e0 : slot ρ i with
  | none => rw [e0] at hp; exact hp.elim
  | some p =>
    rw [e0] at hp
    obtain ⟨v, S2, hv, s2, s3, r2⟩ := ab.look e0
    refine ⟨v, hv, ?_⟩
    cases e : truth p with
    | none => simp only [e] at hp; exact hp.elim
    | some z =>
      simp only [e] at hp
      exact hr S2 H v p z Q s3 r2 e (hp z S H ab rfl)
end
end PL

set_option Elab.async false
set_option linter.all false
set_option maxRecDepth 100000
set_option maxHeartbeats 4000000
namespace PL
open PySem PySem.Spec L2
set_option autoImplicit false

inductive RS where
  | bad | exc (x : Exn) (ρ : Env) | nx (ρ : Env) | rt (p : PV) (ρ : Env) | bk (ρ : Env) | ct (ρ : Env)
def Rs.bindS {α : Type} (r : Rs α) (k : α → Env → RS) : RS := match r with
  | .bad => .bad
  | .exc x ρ => .exc x ρ
  | .ok a ρ => k a ρ
@[simp] theorem bindS_ok {α : Type} (a : α) (ρ : Env) (k : α → Env → RS) : (Rs.ok a ρ).bindS k = k a ρ := id rfl
@[simp] theorem bindS_exc {α : Type} (x : Exn) (ρ : Env) (k : α → Env → RS) : (Rs.exc x ρ).bindS k = .exc x ρ := id rfl
@[simp] theorem bindS_bad {α : Type} (k : α → Env → RS) : (Rs.bad : Rs α).bindS k = .bad := id rfl
abbrev DenS := Env → RS
/-- how a value comes back: fresh or shared -/
def RetRep (fr : Bool) (K : PySem.W.Frag) (H₀ S H : Hp) (σ : St) (ρ : Env) (p : PV) (v : V) : Prop := if fr = true then Fr K H₀ S H σ ρ p v else Rep K S p v
def SPost (K : PySem.W.Frag) (mg : Str → Option Value) (W : WX) (fr : Bool) (H₀ S₀ : Hp) (M : Addr → Prop) (r : RS) (D : Ends) : Prop :=
  match r with
  | .bad => False
  | .exc x ρ' => ∀ cls dd S' σ' H', Abs K H₀ S₀ M S' σ' H' ρ' → ExcRep K mg S' H' x cls dd → W cls dd σ' H'
  | .nx ρ' => ∀ S' σ' H', Abs K H₀ S₀ M S' σ' H' ρ' → D.nx σ' H'
  | .bk ρ' => ∀ S' σ' H', Abs K H₀ S₀ M S' σ' H' ρ' → D.bk σ' H'
  | .ct ρ' => ∀ S' σ' H', Abs K H₀ S₀ M S' σ' H' ρ' → D.ct σ' H'
  | .rt p ρ' => ∀ v S' σ' H', Abs K H₀ S₀ M S' σ' H' ρ' → RetRep fr K H₀ S' H' σ' ρ' p v → D.rt v H'
def SOk (K : PySem.W.Frag) (mg : Str → Option Value) (W : WX) (fr : Bool) (t : TS) (d : DenS) : Prop :=
  ∀ (H₀ S₀ : Hp) (M : Addr → Prop) (S : Hp) (σ : St) (H : Hp) (ρ : Env) (D : Ends), Abs K H₀ S₀ M S σ H ρ → SPost K mg W fr H₀ S₀ M (d ρ) D → t D σ H

section
variable {K : PySem.W.Frag} {mg : Str → Option Value} {W : WX} {fr : Bool} {H₀ S₀ : Hp} {M : Addr → Prop} {S H : Hp} {σ : St} {ρ : Env}
/-- the same ends, over a later base -/
theorem SPost.rebase {S1 σ1 H1 ρ1} (ab : Abs K H₀ S₀ M S1 σ1 H1 ρ1) {r : RS} {D : Ends} (h : SPost K mg W fr H₀ S₀ M r D) : SPost K mg W fr H₀ S1 M r D := by
  cases r with
  | bad => exact h
  | exc x ρ' => exact fun cls dd S' σ' H' a r => h cls dd S' σ' H' (ab.unbase a) r
  | nx ρ' => exact fun S' σ' H' a => h S' σ' H' (ab.unbase a)
  | bk ρ' => exact fun S' σ' H' a => h S' σ' H' (ab.unbase a)
  | ct ρ' => exact fun S' σ' H' a => h S' σ' H' (ab.unbase a)
  | rt p ρ' => exact fun v S' σ' H' a r => h v S' σ' H' (ab.unbase a) r
theorem XOk.bindS {α β : Type} {Rl : RelT α β} {t : St → Hp → (β → Hp → Prop) → Prop} {d : Env → Rs α} (h : XOk K mg W Rl t d) (ab : Abs K H₀ S₀ M S σ H ρ) {k : α → Env → RS} {D : Ends} {Q1 : β → Hp → Prop}
    (hp : SPost K mg W fr H₀ S₀ M ((d ρ).bindS k) D)
    (hk : ∀ a ρ1 b S1 H1, d ρ = .ok a ρ1 → Abs K H₀ S₀ M S1 σ H1 ρ1 → Same S S1 → Rl H₀ S1 H1 σ ρ1 a b → SPost K mg W fr H₀ S₀ M (k a ρ1) D → Q1 b H1) : t σ H Q1 := by
  refine h H₀ S M S σ H ρ Q1 ab.rebase ?_
  cases e : d ρ with
  | bad => rw [e] at hp; exact hp
  | exc x ρ1 =>
    rw [e] at hp
    exact fun cls dd S' H' a1 r => hp cls dd S' σ H' (ab.unbase a1) r
  | ok a ρ1 =>
    rw [e] at hp
    exact fun b S1 H1 a1 r => hk a ρ1 b S1 H1 e (ab.unbase a1) a1.base r hp

/-! ### small statements -/
def sNx : DenS := fun ρ => .nx ρ
def sBk : DenS := fun ρ => .bk ρ
def sCt : DenS := fun ρ => .ct ρ
def sSeq (a b : DenS) : DenS := fun ρ => match a ρ with
  | .nx ρ1 => b ρ1
  | r => r
def sExpr (da : Den) : DenS := fun ρ => (da ρ).bindS fun _ ρ1 => .nx ρ1
def sRet (da : Den) : DenS := fun ρ => (da ρ).bindS fun p ρ1 => .rt p ρ1
def sRetN : DenS := fun ρ => .rt .non ρ
def sRetO (i : Nat) : DenS := fun ρ => match ρ[i]? with
  | some (.ow p) => .rt p (ρ.set i .un)
  | _ => .bad
def sIf (dc : DenB) (a b : DenS) : DenS := fun ρ => (dc ρ).bindS fun c ρ1 => if c = true then a ρ1 else b ρ1
def sSet (i : Nat) (da : Den) : DenS := fun ρ => (da ρ).bindS fun p ρ1 => .nx (ρ1.set i (.sh p))
def sSetF (i : Nat) (da : Den) : DenS := fun ρ => (da ρ).bindS fun p ρ1 => .nx (ρ1.set i (.ow p))
abbrev DenG := PV → Env → Option Env
def sAsg (da : Den) (dg : DenG) : DenS := fun ρ => (da ρ).bindS fun p ρ1 => match dg p ρ1 with
  | some ρ2 => .nx ρ2
  | none => .bad
def sAug (i : Nat) (g : PV → PV → Option PV) (da : Den) : DenS := fun ρ => match slot ρ i with
  | none => .bad
  | some _ => (da ρ).bindS fun q ρ1 => match slot ρ1 i with
    | none => .bad
    | some p => match g p q with
      | some z => .nx (ρ1.set i (.sh z))
      | none => .bad
def gName (i : Nat) : DenG := fun p ρ => some (ρ.set i (.sh p))
def GOk (K : PySem.W.Frag) (g : TG) (dg : DenG) : Prop :=
  ∀ (H₀ S₀ : Hp) (M : Addr → Prop) (S : Hp) (σ : St) (H : Hp) (ρ ρ' : Env) (p : PV) (v : V) (Q : St → Hp → Prop), Abs K H₀ S₀ M S σ H ρ → Rep K S p v → dg p ρ = some ρ' → (∀ σ', Abs K H₀ S₀ M S σ' H ρ' → Q σ' H) → g v σ H Q
def GsOk (K : PySem.W.Frag) (g : TGs) (dg : List PV → Env → Option Env) : Prop :=
  ∀ (H₀ S₀ : Hp) (M : Addr → Prop) (S : Hp) (σ : St) (H : Hp) (ρ ρ' : Env) (ps : List PV) (vs : List V) (Q : St → Hp → Prop), Abs K H₀ S₀ M S σ H ρ → RepL K S ps vs → dg ps ρ = some ρ' → (∀ σ', Abs K H₀ S₀ M S σ' H ρ' → Q σ' H) → g vs σ H Q
def gsNil : List PV → Env → Option Env
  | [], ρ => some ρ
  | _ :: _, _ => none
def gsCons (a : DenG) (b : List PV → Env → Option Env) : List PV → Env → Option Env
  | [], _ => none
  | p :: ps, ρ => (a p ρ).bind (b ps)
def gTup (b : List PV → Env → Option Env) : DenG := fun p ρ => match p with
  | .tup ps => b ps ρ
  | _ => none
theorem go_name {i : Nat} : GOk K (L2.gName i) (gName i) := fun H₀ S₀ M S σ H ρ ρ' p v Q ab r e h => by
  cases e
  exact h _ (ab.setSh r)
theorem gso_nil : GsOk K L2.gNil gsNil := fun H₀ S₀ M S σ H ρ ρ' ps vs Q ab r e h => by
  cases r with
  | nil =>
    cases e
    exact ⟨rfl, h _ ab⟩
  | cons _ _ => cases e
theorem gso_cons {g : TG} {dg : DenG} {gs : TGs} {dgs : List PV → Env → Option Env} (h1 : GOk K g dg) (h2 : GsOk K gs dgs) : GsOk K (L2.gCons g gs) (gsCons dg dgs) := fun H₀ S₀ M S σ H ρ ρ' ps vs Q ab r e h => by
  cases r with
  | nil => cases e
  | cons r1 r2 =>
    rename_i p v ps vs
    unfold gsCons at e
    cases e1 : dg p ρ with
    | none => simp only [e1] at e; cases e
    | some ρ1 =>
      simp only [e1] at e
      exact ⟨_, _, rfl, h1 H₀ S₀ M S σ H ρ ρ1 p v _ ab r1 e1 fun σ1 a1 => h2 H₀ S₀ M S σ1 H ρ1 ρ' ps vs Q a1 r2 e h⟩
theorem gsCons_len {n : Nat} {dg : DenG} {dgs : List PV → Env → Option Env} (h : ∀ ps ρ ρ', dgs ps ρ = some ρ' → ps.length = n) : ∀ ps ρ ρ', gsCons dg dgs ps ρ = some ρ' → ps.length = n + 1
  | [], _, _, e => by cases e
  | p :: ps, ρ, ρ', e => by
    unfold gsCons at e
    cases e1 : dg p ρ with
    | none => simp only [e1] at e; cases e
    | some ρ1 =>
      simp only [e1] at e
      rw [List.length_cons, h ps ρ1 ρ' e]
theorem gsNil_len : ∀ ps ρ ρ', gsNil ps ρ = some ρ' → ps.length = 0
  | [], _, _, _ => rfl
  | _ :: _, _, _, e => by cases e
theorem go_tup {n : Nat} {gs : TGs} {dgs : List PV → Env → Option Env} (h1 : GsOk K gs dgs) (hn : ∀ ps ρ ρ', dgs ps ρ = some ρ' → ps.length = n) : GOk K (L2.gTup K n gs) (gTup dgs) := fun H₀ S₀ M S σ H ρ ρ' p v Q ab r e h => by
  cases p with
  | tup ps =>
    cases r with
    | tup hs hr =>
      refine ⟨_, _, rfl, .inl (.inl (ab.sub _ _ hs)), ?_, h1 H₀ S₀ M S σ H ρ ρ' ps _ Q ab hr e h⟩
      rw [← hr.length]
      exact hn ps ρ ρ' e
  | _ => cases e

theorem so_nx : SOk K mg W fr tNext sNx := fun H₀ S₀ M S σ H ρ D ab hp => hp S σ H ab
theorem so_bk : SOk K mg W fr tBreak sBk := fun H₀ S₀ M S σ H ρ D ab hp => hp S σ H ab
theorem so_ct : SOk K mg W fr tCont sCt := fun H₀ S₀ M S σ H ρ D ab hp => hp S σ H ab
theorem so_seq {t u : TS} {a b : DenS} (ha : SOk K mg W fr t a) (hb : SOk K mg W fr u b) : SOk K mg W fr (tSeq t u) (sSeq a b) := fun H₀ S₀ M S σ H ρ D ab hp => by
  refine ha H₀ S₀ M S σ H ρ _ ab ?_
  unfold sSeq at hp
  cases e : a ρ with
  | nx ρ1 =>
    rw [e] at hp
    exact fun S' σ' H' a1 => hb H₀ S₀ M S' σ' H' ρ1 D a1 hp
  | bad => rw [e] at hp; exact hp
  | exc x ρ1 => rw [e] at hp; exact hp
  | rt p ρ1 => rw [e] at hp; exact hp
  | bk ρ1 => rw [e] at hp; exact hp
  | ct ρ1 => rw [e] at hp; exact hp
theorem so_expr {te : TE} {da : Den} (ha : EOk K mg W te da) : SOk K mg W fr (tDrop te) (sExpr da) := fun H₀ S₀ M S σ H ρ D ab hp =>
  ha.bindS ab hp fun p ρ1 v S1 H1 _ a1 _ r hp => hp S1 σ H1 a1
theorem so_ret {te : TE} {da : Den} (ha : EOk K mg W te da) : SOk K mg W false (tRet te) (sRet da) := fun H₀ S₀ M S σ H ρ D ab hp =>
  ha.bindS ab hp fun p ρ1 v S1 H1 _ a1 _ r hp => hp v S1 σ H1 a1 r
theorem so_retF {te : TE} {da : Den} (ha : FOk K mg W te da) : SOk K mg W true (tRet te) (sRet da) := fun H₀ S₀ M S σ H ρ D ab hp =>
  ha.bindS ab hp fun p ρ1 v S1 H1 _ a1 _ r hp => hp v S1 σ H1 a1 r
theorem so_retN : SOk K mg W false tRetN sRetN := fun H₀ S₀ M S σ H ρ D ab hp => hp .non S σ H ab .non
theorem so_retO {i : Nat} : SOk K mg W true (tRet (tVar i)) (sRetO i) := fun H₀ S₀ M S σ H ρ D ab hp => by
  unfold sRetO at hp
  cases e : ρ[i]? with
  | none => rw [e] at hp; exact hp.elim
  | some s =>
    rw [e] at hp
    cases s with
    | ow p =>
      obtain ⟨a, o, h1, h2, h3, h4, h5, h6⟩ := ab.own i _ _ e rfl
      have hi : i < ρ.length := (List.getElem?_eq_some_iff.mp e).1
      have ne : ∀ {j : Nat} {s : Sl}, (ρ.set i .un)[j]? = some s → s ≠ .un → j ≠ i ∧ ρ[j]? = some s := fun {j s} ej hs => by
        by_cases hj : j = i
        · subst hj
          rw [List.getElem?_set_self hi] at ej
          cases ej
          exact absurd rfl hs
        · rw [List.getElem?_set_ne (Ne.symm hj)] at ej
          exact ⟨hj, ej⟩
      have nu : ∀ {s : Sl} {q : PV}, s.own? = some q → s ≠ .un := fun {s q} h z => by subst z; cases h
      refine ⟨.ref a, h1, hp (.ref a) S σ H ⟨by rw [List.length_set]; exact ab.len, ab.sub, ab.base, ab.grow, ab.keep, ab.there, fun j q ej => ab.sh j q (ne ej (by intro z; cases z)).2, fun j s q ej es => ab.own j s q (ne ej (nu es)).2 es,
        fun j k s t q r c ej es ek et z z' => ab.dis j k s t q r c (ne ej (nu es)).2 es (ne ek (nu et)).2 et z z'⟩ ?_⟩
      exact ⟨a, o, rfl, h2 rfl, h4, h5, h6, fun j s q ej es z => (ne ej (nu es)).1 (ab.dis j i _ _ _ _ a (ne ej (nu es)).2 es e rfl z h1)⟩
    | _ => exact hp.elim
theorem so_if {tc : TT} {dc : DenB} {t u : TS} {a b : DenS} (hc : TOk K mg W tc dc) (ha : SOk K mg W fr t a) (hb : SOk K mg W fr u b) : SOk K mg W fr (tIfS tc t u) (sIf dc a b) := fun H₀ S₀ M S σ H ρ D ab hp =>
  hc.bindS ab hp fun c ρ1 b' S1 H1 _ a1 _ r hp => by
    cases r
    cases c with
    | true => exact ha H₀ S₀ M S1 σ H1 ρ1 D a1 hp
    | false => exact hb H₀ S₀ M S1 σ H1 ρ1 D a1 hp
theorem so_set {i : Nat} {te : TE} {da : Den} (ha : EOk K mg W te da) : SOk K mg W fr (tAsg te (L2.gName i)) (sSet i da) := fun H₀ S₀ M S σ H ρ D ab hp =>
  ha.bindS ab hp fun p ρ1 v S1 H1 _ a1 _ r hp => hp S1 _ H1 (a1.setSh r)
theorem so_setF {i : Nat} {te : TE} {da : Den} (ha : FOk K mg W te da) : SOk K mg W fr (tAsg te (L2.gName i)) (sSetF i da) := fun H₀ S₀ M S σ H ρ D ab hp =>
  ha.bindS ab hp fun p ρ1 v S1 H1 _ a1 _ r hp => hp S1 _ H1 (a1.setOw r)
theorem so_asg {te : TE} {da : Den} {g : TG} {dg : DenG} (ha : EOk K mg W te da) (hg : GOk K g dg) : SOk K mg W fr (tAsg te g) (sAsg da dg) := fun H₀ S₀ M S σ H ρ D ab hp =>
  ha.bindS ab hp fun p ρ1 v S1 H1 _ a1 _ r hp => by
    cases e : dg p ρ1 with
    | none => simp only [e] at hp; exact hp.elim
    | some ρ2 =>
      simp only [e] at hp
      exact hg H₀ S₀ M S1 σ H1 ρ1 ρ2 p v _ a1 r e fun σ' a2 => hp S1 σ' H1 a2
theorem so_aug {i : Nat} {te : TE} {da : Den} {r : R2} {g : PV → PV → Option PV} (ha : EOk K mg W te da) (hr : V2 K r g) (hs : ∀ p q z, g p q = some z → z.sc = true) : SOk K mg W fr (tAug i te r) (sAug i g da) := fun H₀ S₀ M S σ H ρ D ab hp => by
  unfold sAug at hp
  cases e0 : slot ρ i with
  | none => rw [e0] at hp; exact hp.elim
  | some p0 =>
    rw [e0] at hp
    obtain ⟨v, _, hv, _⟩ := ab.look e0
    refine ⟨v, hv, ha.bindS ab hp fun q ρ1 u S1 H1 _ a1 _ r1 hp => ?_⟩
    cases e1 : slot ρ1 i with
    | none => rw [e1] at hp; exact hp.elim
    | some p =>
      rw [e1] at hp
      obtain ⟨v', S2, hv', s2, s3, r2⟩ := a1.look e1
      rw [hv] at hv'
      cases hv'
      cases e : g p q with
      | none => simp only [e] at hp; exact hp.elim
      | some z =>
        simp only [e] at hp
        exact hr S2 H1 v u p q z _ s3 r2 (r1.up s2) e fun v' S3 H3 st rz => hp S1 _ H3 ((a1.step (step_of a1.sub st)).setSh (rz.sc (hs _ _ _ e)))

/-! ### what changes an owned object in a slot -/
/-- by values: the object at b, the arguments; g: what it becomes, what comes back -/
def MutOk (K : PySem.W.Frag) (r : V → List V → Hp → VK → Prop) (g : PV → List PV → Option (PV × PV)) : Prop :=
  ∀ (S H : Hp) (b : Addr) (o : HO) (p q z : PV) (ps : List PV) (vs : List V) (Q : VK), Same S H → S b = none → H b = some o → OwnO K S p o → RepL K S ps vs → g p ps = some (q, z) → (∀ o' v, OwnO K S q o' → Rep K S z v → Q v (upd H b o')) → r (.ref b) vs H Q
def ownAt (ρ : Env) (i : Nat) : Option (Sl × PV) := match ρ[i]? with
  | some (.ow p) => some (.ow p, p)
  | some (.io p) => some (.io p, p)
  | _ => none
theorem ownAt_some {ρ : Env} {i : Nat} {s : Sl} {p : PV} (h : ownAt ρ i = some (s, p)) : ρ[i]? = some s ∧ s.own? = some p := by
  unfold ownAt at h
  split at h
  · cases h; exact ⟨by assumption, rfl⟩
  · cases h; exact ⟨by assumption, rfl⟩
  · cases h
def isT (T : String) : PV → Bool
  | .lst _ => T = "list"
  | .dic _ _ _ => T = "dict"
  | _ => false
theorem tyV_own {S H : Hp} {T : String} {p : PV} {a : Addr} {o : HO} (h : H a = some o) (w : OwnO K S p o) (t : isT T p = true) : tyV K T (.ref a) H := by
  unfold OwnO at w
  split at w
  · exact .inl ⟨by simpa [isT] using t, _, .inl (.inl h)⟩
  · exact .inr (.inr (.inl ⟨by simpa [isT] using t, .inl ⟨_, h⟩⟩))
  · exact .inr (.inr (.inl ⟨by simpa [isT] using t, .inr ⟨_, h⟩⟩))
  · exact w.elim
def dMut (T : String) (g : PV → List PV → Option (PV × PV)) (i : Nat) (da : DenL) : Den := fun ρ => match ownAt ρ i with
  | none => .bad
  | some (_, p0) => if isT T p0 = true then (da ρ).bind fun ps ρ1 => match ownAt ρ1 i with
    | none => .bad
    | some (s, p) => match g p ps with
      | none => .bad
      | some (q, z) => .ok z (ρ1.set i (s.with q))
    else .bad
theorem eo_mut {T : String} {i : Nat} {ta : TA} {da : DenL} {r : V → List V → Hp → VK → Prop} {g : PV → List PV → Option (PV × PV)} (ha : AOk K mg W ta da) (hr : MutOk K r g) : EOk K mg W (tBM K T r (tVar i) ta) (dMut T g i da) := fun H₀ S₀ M S σ H ρ Q ab hp => by
  unfold dMut at hp
  cases e0 : ownAt ρ i with
  | none => rw [e0] at hp; exact hp.elim
  | some sp =>
    obtain ⟨s0, p0⟩ := sp
    rw [e0] at hp
    by_cases ht : isT T p0 = true
    · simp only [if_pos ht] at hp
      obtain ⟨e1, e2⟩ := ownAt_some e0
      obtain ⟨b, o, h1, h2, h3, h4, h5, h6⟩ := ab.own i _ _ e1 e2
      refine ⟨.ref b, h1, tyV_own h5 h6 ht, ?_⟩
      refine ha.bind (Rl' := rV K) ab hp fun ps ρ1 vs S1 H1 _ a1 s1 r1 hp => ?_
      cases e3 : ownAt ρ1 i with
      | none => rw [e3] at hp; exact hp.elim
      | some sp =>
        obtain ⟨s, p⟩ := sp
        rw [e3] at hp
        obtain ⟨e4, e5⟩ := ownAt_some e3
        obtain ⟨b', o', k1, k2, k3, k4, k5, k6⟩ := a1.own i _ _ e4 e5
        rw [h1] at k1
        cases k1
        cases e6 : g p ps with
        | none => simp only [e6] at hp; exact hp.elim
        | some qz =>
          obtain ⟨q, z⟩ := qz
          simp only [e6] at hp
          exact hr S1 H1 b o' p q z ps vs Q a1.sub k4 k5 k6 r1 e6 fun o2 v w2 rz => hp v S1 _ (a1.mut e4 e5 h1 w2) rz
    · simp only [if_neg ht] at hp
      exact hp.elim
def dMut0 (T : String) (g : PV → List PV → Option (PV × PV)) (i : Nat) : Den := fun ρ => match ownAt ρ i with
  | none => .bad
  | some (s, p) => if isT T p = true then (match g p [] with
      | none => .bad
      | some (q, z) => .ok z (ρ.set i (s.with q))) else .bad
theorem eo_mut0 {T : String} {i : Nat} {r : V → List V → Hp → VK → Prop} {g : PV → List PV → Option (PV × PV)} (hr : MutOk K r g) : EOk K mg W (tBM0 K T r (tVar i)) (dMut0 T g i) := fun H₀ S₀ M S σ H ρ Q ab hp => by
  unfold dMut0 at hp
  cases e0 : ownAt ρ i with
  | none => rw [e0] at hp; exact hp.elim
  | some sp =>
    obtain ⟨s, p⟩ := sp
    rw [e0] at hp
    by_cases ht : isT T p = true
    · simp only [if_pos ht] at hp
      obtain ⟨e1, e2⟩ := ownAt_some e0
      obtain ⟨b, o, h1, h2, h3, h4, h5, h6⟩ := ab.own i _ _ e1 e2
      refine ⟨.ref b, h1, tyV_own h5 h6 ht, ?_⟩
      cases e6 : g p [] with
      | none => simp only [e6] at hp; exact hp.elim
      | some qz =>
        obtain ⟨q, z⟩ := qz
        simp only [e6] at hp
        exact hr S H b o p q z [] [] Q ab.sub h4 h5 h6 .nil e6 fun o2 v w2 rz => hp v S _ (ab.mut e1 e2 h1 w2) rz
    · simp only [if_neg ht] at hp
      exact hp.elim
/-- x[e] = v by values -/
def SetOk (K : PySem.W.Frag) (t : TSet) (g : PV → PV → PV → Option PV) : Prop :=
  ∀ (S H : Hp) (b : Addr) (o : HO) (p i e q : PV) (x y : V) (Q : Hp → Prop), Same S H → S b = none → H b = some o → OwnO K S p o → Rep K S i x → Rep K S e y → g p i e = some q → (∀ o', OwnO K S q o' → Q (upd H b o')) → t (.ref b) x y H Q
def sSub (g : PV → PV → PV → Option PV) (i : Nat) (di da : Den) : DenS := fun ρ => (da ρ).bindS fun e ρ1 => match ownAt ρ1 i with
  | none => .bad
  | some _ => (di ρ1).bindS fun k ρ2 => match ownAt ρ2 i with
    | none => .bad
    | some (s, p) => match g p k e with
      | none => .bad
      | some q => .nx (ρ2.set i (s.with q))
theorem so_sub {i : Nat} {ti te : TE} {di da : Den} {t : TSet} {g : PV → PV → PV → Option PV} (hi : EOk K mg W ti di) (ha : EOk K mg W te da) (hr : SetOk K t g) : SOk K mg W fr (tAsg te (gSub (tVar i) ti t)) (sSub g i di da) := fun H₀ S₀ M S σ H ρ D ab hp =>
  ha.bindS ab hp fun e ρ1 y S1 H1 _ a1 _ ry hp => by
    cases e0 : ownAt ρ1 i with
    | none => rw [e0] at hp; exact hp.elim
    | some sp =>
      obtain ⟨s0, p0⟩ := sp
      rw [e0] at hp
      obtain ⟨e1, e2⟩ := ownAt_some e0
      obtain ⟨b, o, h1, h2, h3, h4, h5, h6⟩ := a1.own i _ _ e1 e2
      refine ⟨.ref b, h1, ?_⟩
      refine hi.bindS a1 hp fun k ρ2 x S2 H2 _ a2 s2 rx hp => ?_
      cases e3 : ownAt ρ2 i with
      | none => rw [e3] at hp; exact hp.elim
      | some sp =>
        obtain ⟨s, p⟩ := sp
        rw [e3] at hp
        obtain ⟨e4, e5⟩ := ownAt_some e3
        obtain ⟨b', o', k1, k2, k3, k4, k5, k6⟩ := a2.own i _ _ e4 e5
        rw [h1] at k1
        cases k1
        cases e6 : g p k e with
        | none => simp only [e6] at hp; exact hp.elim
        | some q =>
          simp only [e6] at hp
          exact hr S2 H2 b o' p k e q x y _ a2.sub k4 k5 k6 rx (ry.up s2) e6 fun o2 w2 => hp S2 σ _ (a2.mut e4 e5 h1 w2)

/-! ### loops -/
def ItR (K : PySem.W.Frag) (S H : Hp) (ps : List PV) (J : It) : Prop :=
  ∀ (i : Nat) (S1 H1 : Hp), Same S S1 → Same S1 H1 → (ps.length ≤ i → J.stop i H1) ∧ ∀ p, ps[i]? = some p → J.go i H1 ∧ ∀ x H2, J.yld i H1 x H2 → ∃ S2, Step S1 H1 S2 H2 ∧ Rep K S2 p x
def rIt (K : PySem.W.Frag) : RelT (List PV) It := fun _ S H _ _ ps J => ItR K S H ps J
abbrev IOk (K : PySem.W.Frag) (mg : Str → Option Value) (W : WX) (wi : TI) (d : DenL) : Prop := XOk K mg W (rIt K) wi d
def dLoop (tgt : DenG) (body : DenS) : List PV → DenS
  | [], ρ => .nx ρ
  | x :: xs, ρ => match tgt x ρ with
    | none => .bad
    | some ρ1 => match body ρ1 with
      | .nx ρ2 => dLoop tgt body xs ρ2
      | .ct ρ2 => dLoop tgt body xs ρ2
      | .bk ρ2 => .nx ρ2
      | r => r
def sFor (di : DenL) (tgt : DenG) (body : DenS) : DenS := fun ρ => (di ρ).bindS fun xs ρ1 => dLoop tgt body xs ρ1
theorem so_for {wi : TI} {di : DenL} {g : TG} {dg : DenG} {tb : TS} {db : DenS} (hi : IOk K mg W wi di) (hg : GOk K g dg) (hb : SOk K mg W fr tb db) : SOk K mg W fr (tFor wi g tb) (sFor di dg db) := fun H₀ S₀ M S σ H ρ D ab hp =>
  hi.bindS ab hp fun xs ρ1 J S1 H1 _ a1 _ rj hp => by
    refine ⟨fun i m σ H => m = xs.length - i ∧ i ≤ xs.length ∧ ∃ S ρ, Abs K H₀ S1 M S σ H ρ ∧ SPost K mg W fr H₀ S1 M (dLoop dg db (xs.drop i) ρ) D, ⟨xs.length, by simp, Nat.zero_le _, S1, ρ1, a1.rebase, by
      rw [List.drop_zero]
      exact hp.rebase a1⟩, ?_⟩
    rintro i m σ' H' ⟨rfl, hle, S', ρ', a', hp'⟩
    obtain ⟨js, jg⟩ := rj i S' H' a'.base a'.sub
    by_cases hlt : i < xs.length
    · have ex : xs[i]? = some xs[i] := List.getElem?_eq_getElem hlt
      obtain ⟨j1, j2⟩ := jg _ ex
      rw [List.drop_eq_getElem_cons hlt] at hp'
      refine .inr ⟨j1, fun σ H => i + 1 ≤ xs.length ∧ ∃ S ρ, Abs K H₀ S1 M S σ H ρ ∧ SPost K mg W fr H₀ S1 M (dLoop dg db (xs.drop (i + 1)) ρ) D, fun σ2 H2 hN => ⟨xs.length - (i + 1), by omega, rfl, hN.1, hN.2⟩, fun x H2 y => ?_⟩
      obtain ⟨S2, st, rx⟩ := j2 x H2 y
      unfold dLoop at hp'
      cases e1 : dg xs[i] ρ' with
      | none => simp only [e1] at hp'; exact hp'.elim
      | some ρ2 =>
        simp only [e1] at hp'
        refine hg H₀ S1 M S2 σ' H2 ρ' ρ2 _ x _ (a'.step st) rx e1 fun σ3 a3 => ?_
        refine hb H₀ S1 M S2 σ3 H2 ρ2 _ a3 ?_
        cases e2 : db ρ2 with
        | bad => simp only [e2] at hp'; exact hp'.elim
        | exc x ρ3 => simp only [e2] at hp'; exact hp'
        | rt p ρ3 => simp only [e2] at hp'; exact hp'
        | nx ρ3 => simp only [e2] at hp'; exact fun S4 σ4 H4 a4 => ⟨hlt, S4, ρ3, a4, hp'⟩
        | ct ρ3 => simp only [e2] at hp'; exact fun S4 σ4 H4 a4 => ⟨hlt, S4, ρ3, a4, hp'⟩
        | bk ρ3 => simp only [e2] at hp'; exact fun S4 σ4 H4 a4 => hp' S4 σ4 H4 a4
    · have ei : i = xs.length := by omega
      subst ei
      rw [List.drop_length] at hp'
      exact .inl ⟨js (Nat.le_refl _), hp' S' σ' H' a'⟩
def dWhile (dc : DenB) (db : DenS) : Nat → DenS
  | 0, _ => .bad
  | n + 1, ρ => (dc ρ).bindS fun c ρ1 => if c = true then (match db ρ1 with
      | .nx ρ2 => dWhile dc db n ρ2
      | .ct ρ2 => dWhile dc db n ρ2
      | .bk ρ2 => .nx ρ2
      | r => r) else .nx ρ1
/-- the number of turns is bounded by what the state says ahead of the loop -/
def sWhile (μ : Env → Nat) (dc : DenB) (db : DenS) : DenS := fun ρ => dWhile dc db (μ ρ) ρ
theorem so_while {μ : Env → Nat} {tc : TT} {dc : DenB} {tb : TS} {db : DenS} (hc : TOk K mg W tc dc) (hb : SOk K mg W fr tb db) : SOk K mg W fr (tWhile tc tb) (sWhile μ dc db) := fun H₀ S₀ M S σ H ρ D ab hp => by
  refine ⟨fun m σ H => ∃ S ρ, Abs K H₀ S₀ M S σ H ρ ∧ SPost K mg W fr H₀ S₀ M (dWhile dc db m ρ) D, ⟨μ ρ, S, ρ, ab, hp⟩, ?_⟩
  rintro m σ' H' ⟨S', ρ', a', hp'⟩
  cases m with
  | zero => exact hp'.elim
  | succ n =>
    unfold dWhile at hp'
    refine hc.bindS a' hp' fun c ρ1 b S1 H1 _ a1 _ r hp' => ?_
    cases r
    cases c with
    | false => exact hp' S1 σ' H1 a1
    | true =>
      refine ⟨fun σ H => ∃ S ρ, Abs K H₀ S₀ M S σ H ρ ∧ SPost K mg W fr H₀ S₀ M (dWhile dc db n ρ) D, fun σ2 H2 h2 => ⟨n, Nat.lt_succ_self _, h2⟩, ?_⟩
      refine hb H₀ S₀ M S1 σ' H1 ρ1 _ a1 ?_
      simp only [if_true] at hp'
      cases e2 : db ρ1 with
      | bad => simp only [e2] at hp'; exact hp'.elim
      | exc x ρ3 => simp only [e2] at hp'; exact hp'
      | rt p ρ3 => simp only [e2] at hp'; exact hp'
      | nx ρ3 => simp only [e2] at hp'; exact fun S4 σ4 H4 a4 => ⟨S4, ρ3, a4, hp'⟩
      | ct ρ3 => simp only [e2] at hp'; exact fun S4 σ4 H4 a4 => ⟨S4, ρ3, a4, hp'⟩
      | bk ρ3 => simp only [e2] at hp'; exact fun S4 σ4 H4 a4 => hp' S4 σ4 H4 a4
end
end PL

set_option Elab.async false
set_option linter.all false
set_option maxRecDepth 100000
set_option maxHeartbeats 4000000
namespace PL
open PySem PySem.Spec L2
set_option autoImplicit false

/-! ### comprehensions -/
def Sl.lock : Sl → Sl
  | .ow p => .io p
  | s => s
def Sl.isOw : Sl → Bool
  | .ow _ => true
  | _ => false
/-- the owned slots are lent to the block, its own names are free -/
def lockE : List Nat → Env → Env
  | [], ρ => ρ.map Sl.lock
  | i :: is, ρ => (lockE is ρ).set i .un
def Sl.back : Sl → Sl → Sl
  | .ow _, .io q => .ow q
  | .io _, .io q => .io q
  | _, .sh p => .sh p
  | _, _ => .un
def clean : Sl → Sl
  | .sh p => .sh p
  | _ => .un
def backE (own : List Nat) (ρ ρ' : Env) : Env := (List.range ρ.length).map fun i => if own.contains i then clean (ρ.getD i .un) else Sl.back (ρ.getD i .un) (ρ'.getD i .un)
def noOw : Env → Bool
  | [] => true
  | s :: r => !s.isOw && noOw r
def wipeE : List Nat → Env → Env
  | [], ρ => ρ
  | i :: is, ρ => (wipeE is ρ).set i .un
def lcLoop (own : List Nat) (tgt : DenG) (test : DenB) (elt : Den) : List PV → Env → Option (List PV × Env)
  | [], ρ => some ([], ρ)
  | x :: xs, ρ => match tgt x ρ with
    | none => none
    | some ρ1 => match test ρ1 with
      | .ok true ρ2 => match elt ρ2 with
        | .ok y ρ3 => if noOw ρ3 = true then (match lcLoop own tgt test elt xs (wipeE own ρ3) with
            | some (ys, ρ4) => some (y :: ys, ρ4)
            | none => none) else none
        | _ => none
      | .ok false ρ2 => if noOw ρ2 = true then lcLoop own tgt test elt xs (wipeE own ρ2) else none
      | _ => none
def dLc (own : List Nat) (di : DenL) (tgt : DenG) (test : DenB) (elt : Den) : Den := fun ρ => (di ρ).bind fun xs ρ1 => match lcLoop own tgt test elt xs (lockE own ρ1) with
  | some (ys, ρ2) => if ys.length ≤ 1000000 then .ok (.lst ys) (backE own ρ1 ρ2) else .bad
  | none => .bad
theorem noOw_get : ∀ {ρ : Env} {i : Nat} {p : PV}, noOw ρ = true → ρ[i]? ≠ some (.ow p)
  | [], i, p, _ => by simp
  | s :: r, 0, p, h => by
    intro e
    simp at e
    subst e
    simp [noOw, Sl.isOw] at h
  | s :: r, i + 1, p, h => by
    intro e
    simp [noOw] at h
    exact noOw_get (i := i) h.2 (by simpa using e)
section
variable {K : PySem.W.Frag} {mg : Str → Option Value} {W : WX} {H₀ S₀ : Hp} {M : Addr → Prop} {S H : Hp} {σ : St} {ρ : Env}
/-- slots lose what they held -/
theorem Abs.forget {σ' : St} {ρ' : Env} (a : Abs K H₀ S₀ M S σ H ρ) (hl : ρ'.length = σ'.length) (h : ∀ (i : Nat) s, ρ'[i]? = some s → s ≠ .un → ρ[i]? = some s ∧ σ'[i]? = σ[i]?) : Abs K H₀ S₀ M S σ' H ρ' where
  len := hl
  sub := a.sub
  base := a.base
  grow := a.grow
  keep := a.keep
  there := a.there
  sh := fun i p e => by
    obtain ⟨h1, h2⟩ := h i _ e (by intro z; cases z)
    rw [h2]
    exact a.sh i p h1
  own := fun i s p e es => by
    obtain ⟨h1, h2⟩ := h i _ e (by intro z; subst z; cases es)
    rw [h2]
    exact a.own i s p h1 es
  dis := fun i j s t p q b e es e' es' z z' => by
    obtain ⟨h1, h2⟩ := h i _ e (by intro z; subst z; cases es)
    obtain ⟨k1, k2⟩ := h j _ e' (by intro z; subst z; cases es')
    rw [h2] at z
    rw [k2] at z'
    exact a.dis i j s t p q b h1 es k1 es' z z'
theorem getElem?_wipe {i : Nat} : ∀ {own : List Nat} {σ : St}, i ∉ own → (wipe σ own)[i]? = σ[i]?
  | [], σ, _ => rfl
  | j :: js, σ, h => by
    have hj : j ≠ i := fun e => h (by simp [e])
    have hjs : i ∉ js := fun e => h (by simp [e])
    show ((wipe σ js).set j none)[i]? = σ[i]?
    rw [List.getElem?_set_ne hj]
    exact getElem?_wipe hjs
theorem wipeE_length : ∀ (own : List Nat) (ρ : Env), (wipeE own ρ).length = ρ.length
  | [], _ => rfl
  | i :: is, ρ => by
    show ((wipeE is ρ).set i .un).length = _
    rw [List.length_set, wipeE_length is ρ]
theorem wipeE_get : ∀ {own : List Nat} {ρ : Env} {i : Nat} {s : Sl}, (wipeE own ρ)[i]? = some s → s ≠ .un → i ∉ own ∧ ρ[i]? = some s
  | [], ρ, i, s, e, _ => ⟨by simp, e⟩
  | j :: js, ρ, i, s, e, n => by
    have e : ((wipeE js ρ).set j .un)[i]? = some s := e
    by_cases hj : j = i
    · subst hj
      have hi : j < (wipeE js ρ).length := by
        rcases Nat.lt_or_ge j (wipeE js ρ).length with h | h
        · exact h
        · rw [List.getElem?_eq_none (by rw [List.length_set]; exact h)] at e; cases e
      rw [List.getElem?_set_self hi] at e
      cases e
      exact absurd rfl n
    · rw [List.getElem?_set_ne hj] at e
      obtain ⟨h1, h2⟩ := wipeE_get e n
      exact ⟨by simp [h1, Ne.symm hj], h2⟩
theorem lockE_length : ∀ (own : List Nat) (ρ : Env), (lockE own ρ).length = ρ.length
  | [], ρ => by simp [lockE]
  | i :: is, ρ => by
    show ((lockE is ρ).set i .un).length = _
    rw [List.length_set, lockE_length is ρ]
theorem lockE_get : ∀ {own : List Nat} {ρ : Env} {i : Nat} {s : Sl}, (lockE own ρ)[i]? = some s → s ≠ .un → i ∉ own ∧ ∃ s', ρ[i]? = some s' ∧ s = s'.lock
  | [], ρ, i, s, e, _ => by
    have e : (ρ.map Sl.lock)[i]? = some s := e
    rw [List.getElem?_map] at e
    cases e1 : ρ[i]? with
    | none => rw [e1] at e; cases e
    | some s' =>
      rw [e1] at e
      cases e
      exact ⟨by simp, s', rfl, rfl⟩
  | j :: js, ρ, i, s, e, n => by
    have e : ((lockE js ρ).set j .un)[i]? = some s := e
    by_cases hj : j = i
    · subst hj
      have hi : j < (lockE js ρ).length := by
        rcases Nat.lt_or_ge j (lockE js ρ).length with h | h
        · exact h
        · rw [List.getElem?_eq_none (by rw [List.length_set]; exact h)] at e; cases e
      rw [List.getElem?_set_self hi] at e
      cases e
      exact absurd rfl n
    · rw [List.getElem?_set_ne hj] at e
      obtain ⟨h1, h2⟩ := lockE_get e n
      exact ⟨by simp [h1, Ne.symm hj], h2⟩
def Lent (σ : St) (ρ : Env) (a : Addr) : Prop := ∃ (i : Nat) (s : Sl) (p : PV), ρ[i]? = some s ∧ s.own? = some p ∧ σ[i]? = some (some (.ref a))
theorem wipe_len (σ : St) (own : List Nat) : (wipe σ own).length = σ.length := wipe_length σ own
/-- into the block: what stands now is the base, the owned slots are lent -/
theorem Abs.enter (own : List Nat) (a : Abs K H₀ S₀ M S σ H ρ) : Abs K H S (Lent σ ρ) S (wipe σ own) H (lockE own ρ) where
  len := by rw [lockE_length, wipe_len]; exact a.len
  sub := a.sub
  base := Same.refl _
  grow := fun _ _ e => .inl e
  keep := fun _ _ e _ => e
  there := fun b o e => ⟨o, e⟩
  sh := fun i p e => by
    obtain ⟨h1, s', h2, h3⟩ := lockE_get e (by intro z; cases z)
    rw [getElem?_wipe h1]
    cases s' with
    | sh q => cases h3; exact a.sh i _ h2
    | _ => cases h3
  own := fun i s p e es => by
    obtain ⟨h1, s', h2, h3⟩ := lockE_get e (by intro z; subst z; cases es)
    rw [getElem?_wipe h1]
    have key : ∀ q, s'.own? = some q → s = .io q ∧ p = q := fun q hq => by
      cases s' with
      | ow r => cases hq; subst h3; cases es; exact ⟨rfl, rfl⟩
      | io r => cases hq; subst h3; cases es; exact ⟨rfl, rfl⟩
      | un => cases hq
      | sh r => cases hq
    have hs' : s'.own? = some p := by
      cases s' with
      | ow r => subst h3; cases es; rfl
      | io r => subst h3; cases es; rfl
      | un => subst h3; cases es
      | sh r => subst h3; cases es
    obtain ⟨rfl, _⟩ := key p hs'
    obtain ⟨b, o, k1, k2, k3, k4, k5, k6⟩ := a.own i s' p h2 hs'
    exact ⟨b, o, k1, (fun z => by cases z), fun _ => ⟨i, s', p, h2, hs', k1⟩, k4, k5, k6⟩
  dis := fun i j s t p q b e es e' es' z z' => by
    obtain ⟨h1, s1, h2, h3⟩ := lockE_get e (by intro z; subst z; cases es)
    obtain ⟨k1, s2, k2, k3⟩ := lockE_get e' (by intro z; subst z; cases es')
    rw [getElem?_wipe h1] at z
    rw [getElem?_wipe k1] at z'
    have key : ∀ {s' s : Sl} {p : PV}, s = s'.lock → s.own? = some p → s'.own? = some p := fun {s' s p} h3 es => by
      cases s' with
      | ow r => subst h3; cases es; rfl
      | io r => subst h3; cases es; rfl
      | un => subst h3; cases es
      | sh r => subst h3; cases es
    exact a.dis i j s1 s2 p q b h2 (key h3 es) k2 (key k3 es') z z'
/-- a turn's base is what stands at its start -/
theorem Abs.here (a : Abs K H₀ S₀ M S σ H ρ) (n : noOw ρ = true) : Abs K H S M S σ H ρ where
  len := a.len
  sub := a.sub
  base := Same.refl _
  grow := fun _ _ e => .inl e
  keep := fun _ _ e _ => e
  there := fun b o e => ⟨o, e⟩
  sh := a.sh
  own := fun i s p e es => by
    obtain ⟨b, o, k1, k2, k3, k4, k5, k6⟩ := a.own i s p e es
    refine ⟨b, o, k1, fun z => ?_, k3, k4, k5, k6⟩
    subst z
    exact absurd e (noOw_get n)
  dis := a.dis
theorem Abs.along {S' H' : Hp} {σ' : St} {ρ' : Env} (a : Abs K H₀ S₀ M S σ H ρ) (b : Abs K H S M S' σ' H' ρ') (n : noOw ρ' = true) : Abs K H₀ S₀ M S' σ' H' ρ' where
  len := b.len
  sub := b.sub
  base := a.base.trans b.base
  grow := fun c o e => by
    rcases b.grow c o e with h | h
    · exact a.grow c o h
    · exact .inr (a.nt0 h)
  keep := fun c o e m => b.keep c o (a.keep c o e m) m
  there := fun c o e => by
    obtain ⟨o1, h1⟩ := a.there c o e
    exact b.there c o1 h1
  sh := b.sh
  own := fun i s p e es => by
    obtain ⟨c, o, k1, k2, k3, k4, k5, k6⟩ := b.own i s p e es
    refine ⟨c, o, k1, fun z => ?_, k3, k4, k5, k6⟩
    subst z
    exact absurd e (noOw_get n)
  dis := b.dis
theorem backE_get {own : List Nat} {ρ ρ' : Env} {i : Nat} {s : Sl} (e : (backE own ρ ρ')[i]? = some s) (n : s ≠ .un) :
    (i ∈ own ∧ ∃ p, s = .sh p ∧ ρ[i]? = some (.sh p)) ∨ (i ∉ own ∧ ∃ t t', ρ[i]? = some t ∧ ρ'[i]? = some t' ∧ s = Sl.back t t') := by
  unfold backE at e
  rw [List.getElem?_map] at e
  cases e1 : (List.range ρ.length)[i]? with
  | none => rw [e1] at e; cases e
  | some j =>
    rw [e1] at e
    have hi : i < ρ.length := by
      rcases Nat.lt_or_ge i ρ.length with h | h
      · exact h
      · rw [List.getElem?_eq_none (by simpa using h)] at e1; cases e1
    have hj : i = j := by
      rw [List.getElem?_range hi] at e1
      cases e1; rfl
    subst hj
    have er : ρ.getD i .un = ρ[i] := by simp [List.getD, hi]
    have ei : ρ[i]? = some ρ[i] := List.getElem?_eq_getElem hi
    by_cases hc : own.contains i = true
    · simp only [Option.map_some, hc, if_true, er, Option.some.injEq] at e
      refine .inl ⟨by simpa using hc, ?_⟩
      rw [ei]
      cases ex : ρ[i] with
      | sh p => rw [ex] at e; exact ⟨p, e.symm, rfl⟩
      | _ => rw [ex] at e; exact absurd e.symm n
    · simp only [Option.map_some, hc, Bool.false_eq_true, if_false, er, Option.some.injEq] at e
      refine .inr ⟨by simpa using hc, ?_⟩
      cases e2 : ρ'[i]? with
      | none =>
        have : ρ'.getD i .un = .un := by simp [List.getD, e2]
        rw [this] at e
        cases ex : ρ[i] <;> rw [ex] at e <;> exact absurd e.symm n
      | some t' =>
        have : ρ'.getD i .un = t' := by simp [List.getD, e2]
        rw [this] at e
        exact ⟨_, t', ei, rfl, e.symm⟩
/-- out of the block -/
theorem Abs.exit {own : List Nat} {S1 H1 : Hp} {ρ1 : Env} (a : Abs K H₀ S₀ M S σ H ρ) (b : Abs K H S (Lent σ ρ) S1 (wipe σ own) H1 ρ1) : Abs K H₀ S₀ M S1 σ H1 (backE own ρ ρ1) where
  len := by
    unfold backE
    rw [List.length_map, List.length_range]
    exact a.len
  sub := b.sub
  base := a.base.trans b.base
  grow := fun c o e => by
    rcases b.grow c o e with h | h
    · exact a.grow c o h
    · exact .inr (a.nt0 h)
  keep := fun c o e m => by
    refine b.keep c o (a.keep c o e m) fun ⟨i, s, p, h1, h2, h3⟩ => ?_
    obtain ⟨c', o', k1, k2, k3, _⟩ := a.own i s p h1 h2
    rw [h3] at k1
    cases k1
    cases s with
    | ow q => cases h2; rw [k2 rfl] at e; cases e
    | io q => cases h2; exact m (k3 rfl)
    | un => cases h2
    | sh q => cases h2
  there := fun c o e => by
    obtain ⟨o1, h1⟩ := a.there c o e
    exact b.there c o1 h1
  sh := fun i p e => by
    rcases backE_get e (by intro z; cases z) with ⟨_, q, hq, h2⟩ | ⟨h1, t, t', h2, h3, h4⟩
    · cases hq
      obtain ⟨v, k1, k2⟩ := a.sh i _ h2
      exact ⟨v, k1, k2.up b.base⟩
    · have ht : t' = .sh p := by
        cases t <;> cases t' <;> simp [Sl.back] at h4 <;> first | (subst h4; rfl) | skip
      subst ht
      obtain ⟨v, k1, k2⟩ := b.sh i p h3
      rw [getElem?_wipe h1] at k1
      exact ⟨v, k1, k2⟩
  own := fun i s p e es => by
    rcases backE_get e (by intro z; subst z; cases es) with ⟨_, q, hq, h2⟩ | ⟨h1, t, t', h2, h3, h4⟩
    · subst hq; cases es
    · have ht : t' = .io p ∧ ((∃ q, t = .ow q ∧ s = .ow p) ∨ ∃ q, t = .io q ∧ s = .io p) := by
        cases t <;> cases t' <;> simp [Sl.back] at h4 <;> subst h4 <;> first | (cases es; done) | (cases es; exact ⟨rfl, .inl ⟨_, rfl, rfl⟩⟩) | (cases es; exact ⟨rfl, .inr ⟨_, rfl, rfl⟩⟩)
      obtain ⟨rfl, ht⟩ := ht
      obtain ⟨c, o, k1, k2, k3, k4, k5, k6⟩ := b.own i _ p h3 rfl
      rw [getElem?_wipe h1] at k1
      rcases ht with ⟨q, rfl, rfl⟩ | ⟨q, rfl, rfl⟩
      · obtain ⟨c', o', z1, z2, z3, _⟩ := a.own i _ q h2 rfl
        rw [k1] at z1
        cases z1
        exact ⟨c, o, k1, fun _ => z2 rfl, (fun z => by cases z), k4, k5, k6⟩
      · obtain ⟨c', o', z1, z2, z3, _⟩ := a.own i _ q h2 rfl
        rw [k1] at z1
        cases z1
        exact ⟨c, o, k1, (fun z => by cases z), fun _ => z3 rfl, k4, k5, k6⟩
  dis := fun i j s t p q c e es e' es' z z' => by
    have key : ∀ {i : Nat} {s : Sl} {p : PV}, (backE own ρ ρ1)[i]? = some s → s.own? = some p → i ∉ own ∧ ρ1[i]? = some (.io p) := fun {i s p} e es => by
      rcases backE_get e (by intro z; subst z; cases es) with ⟨_, q, hq, h2⟩ | ⟨h1, t, t', h2, h3, h4⟩
      · subst hq; cases es
      · have ht : t' = .io p := by
          cases t <;> cases t' <;> simp [Sl.back] at h4 <;> subst h4 <;> first | (cases es; done) | (cases es; rfl)
        subst ht
        exact ⟨h1, h3⟩
    obtain ⟨h1, h2⟩ := key e es
    obtain ⟨k1, k2⟩ := key e' es'
    exact b.dis i j _ _ _ _ c h2 rfl k2 rfl (by rw [getElem?_wipe h1]; exact z) (by rw [getElem?_wipe k1]; exact z')

theorem noOw_map : ∀ l : Env, noOw (l.map Sl.lock) = true
  | [] => rfl
  | s :: r => by cases s <;> simp [noOw, Sl.lock, Sl.isOw, noOw_map r]
theorem noOw_set : ∀ (l : Env) (i : Nat), noOw l = true → noOw (l.set i .un) = true
  | [], _, h => h
  | s :: r, 0, h => by
    simp [noOw] at h ⊢
    exact ⟨rfl, h.2⟩
  | s :: r, i + 1, h => by
    simp [noOw] at h ⊢
    exact ⟨h.1, noOw_set r i h.2⟩
theorem noOw_lockE : ∀ (own : List Nat) (ρ : Env), noOw (lockE own ρ) = true
  | [], ρ => noOw_map ρ
  | i :: is, ρ => noOw_set _ _ (noOw_lockE is ρ)
theorem noOw_wipeE : ∀ (own : List Nat) (ρ : Env), noOw ρ = true → noOw (wipeE own ρ) = true
  | [], _, h => h
  | i :: is, ρ, h => noOw_set _ _ (noOw_wipeE is ρ h)
theorem wipe_set : ∀ {own : List Nat} {i : Nat} {x : Option V} {σ : St}, i ∈ own → wipe (σ.set i x) own = wipe σ own
  | j :: js, i, x, σ, h => by
    show (wipe (σ.set i x) js).set j none = (wipe σ js).set j none
    by_cases hj : i ∈ js
    · rw [wipe_set hj]
    · have e : i = j := by
        rcases List.mem_cons.mp h with e | e
        · exact e
        · exact absurd e hj
      subst e
      apply List.ext_getElem?
      intro k
      by_cases hk : k = i
      · subst hk
        by_cases hl : k < σ.length
        · rw [List.getElem?_set_self (by rw [wipe_len, List.length_set]; exact hl), List.getElem?_set_self (by rw [wipe_len]; exact hl)]
        · rw [List.getElem?_eq_none (by rw [List.length_set, wipe_len, List.length_set]; omega), List.getElem?_eq_none (by rw [List.length_set, wipe_len]; omega)]
      · rw [List.getElem?_set_ne (Ne.symm hk), List.getElem?_set_ne (Ne.symm hk)]
        by_cases hkj : k ∈ js
        · have w0 : ∀ {l : List Nat} {τ : St}, k ∈ l → (wipe τ l)[k]? = (if k < τ.length then some none else none) := fun {l} => by
            induction l with
            | nil => intro τ h; cases h
            | cons a r ih =>
              intro τ h
              show ((wipe τ r).set a none)[k]? = _
              by_cases ha : a = k
              · subst ha
                by_cases hl : a < τ.length
                · rw [List.getElem?_set_self (by rw [wipe_len]; exact hl), if_pos hl]
                · rw [List.getElem?_eq_none (by rw [List.length_set, wipe_len]; omega), if_neg hl]
              · rw [List.getElem?_set_ne ha]
                rcases List.mem_cons.mp h with e | e
                · exact absurd e.symm ha
                · exact ih e
          rw [w0 hkj, w0 hkj, List.length_set]
        · rw [getElem?_wipe hkj, getElem?_wipe hkj, List.getElem?_set_ne (Ne.symm hk)]
theorem wipe_wipe : ∀ (own : List Nat) (σ : St), wipe (wipe σ own) own = wipe σ own := fun own σ => by
  have key : ∀ (l : List Nat) (τ : St), (∀ i ∈ l, i ∈ own) → wipe (wipe τ l) own = wipe τ own := fun l => by
    induction l with
    | nil => intro τ _; rfl
    | cons a r ih =>
      intro τ h
      show wipe ((wipe τ r).set a none) own = _
      rw [wipe_set (h a List.mem_cons_self)]
      exact ih τ fun i hi => h i (List.mem_cons_of_mem _ hi)
  exact key own σ fun _ h => h
/-- a target stores to these slots alone -/
def TgW (own : List Nat) (g : TG) : Prop := ∀ (v : V) (τ : St) (H : Hp) (Q : St → Hp → Prop), g v τ H Q → g v τ H fun σ2 H2 => wipe σ2 own = wipe τ own ∧ Q σ2 H2
def TgsW (own : List Nat) (g : TGs) : Prop := ∀ (v : List V) (τ : St) (H : Hp) (Q : St → Hp → Prop), g v τ H Q → g v τ H fun σ2 H2 => wipe σ2 own = wipe τ own ∧ Q σ2 H2
/-- a target's wish may be weakened -/
theorem tw_name {own : List Nat} {i : Nat} (h : i ∈ own) : TgW own (L2.gName i) := fun v τ H Q q => ⟨wipe_set h, q⟩
theorem tws_nil {own : List Nat} : TgsW own L2.gNil := fun v τ H Q q => ⟨q.1, rfl, q.2⟩
theorem tws_name {own : List Nat} {i : Nat} {gs : TGs} (h : i ∈ own) (hs : TgsW own gs) : TgsW own (L2.gCons (L2.gName i) gs) := fun v τ H Q q => by
  obtain ⟨x, r, e, q⟩ := q
  refine ⟨x, r, e, ?_⟩
  have q : gs r (τ.set i (some x)) H Q := q
  have z := hs r _ H Q q
  rw [wipe_set h] at z
  exact z
theorem tw_tup {own : List Nat} {n : Nat} {gs : TGs} (h : TgsW own gs) : TgW own (L2.gTup K n gs) := fun v τ H Q q => by
  obtain ⟨a, xs, e, h1, h2, q⟩ := q
  exact ⟨a, xs, e, h1, h2, h _ _ _ _ q⟩
def GMono (g : TG) : Prop := ∀ (v : V) (τ : St) (H : Hp) (Q Q' : St → Hp → Prop), (∀ σ H, Q σ H → Q' σ H) → g v τ H Q → g v τ H Q'
def GsMono (g : TGs) : Prop := ∀ (v : List V) (τ : St) (H : Hp) (Q Q' : St → Hp → Prop), (∀ σ H, Q σ H → Q' σ H) → g v τ H Q → g v τ H Q'
theorem gm_name {i : Nat} : GMono (L2.gName i) := fun v τ H Q Q' h q => h _ _ q
theorem gms_nil : GsMono L2.gNil := fun v τ H Q Q' h q => ⟨q.1, h _ _ q.2⟩
theorem gms_cons {g : TG} {gs : TGs} (h1 : GMono g) (h2 : GsMono gs) : GsMono (L2.gCons g gs) := fun v τ H Q Q' h q => by
  obtain ⟨x, r, e, q⟩ := q
  exact ⟨x, r, e, h1 _ _ _ _ _ (fun σ H z => h2 _ _ _ _ _ h z) q⟩
theorem gm_tup {n : Nat} {gs : TGs} (h : GsMono gs) : GMono (L2.gTup K n gs) := fun v τ H Q Q' h' q => by
  obtain ⟨a, xs, e, h1, h2, q⟩ := q
  exact ⟨a, xs, e, h1, h2, h _ _ _ _ _ h' q⟩
/-- an object that no slot owns changes -/
theorem Abs.other {D : Addr} {o : HO} (a : Abs K H₀ S₀ M S σ H ρ) (h0 : H₀ D = none) (hS : S D = none) (hn : ∀ (i : Nat) s p, ρ[i]? = some s → s.own? = some p → σ[i]? ≠ some (some (.ref D))) : Abs K H₀ S₀ M S σ (upd H D o) ρ where
  len := a.len
  sub := fun b x e => by
    rw [upd_ne (fun z => by rw [z, hS] at e; cases e)]
    exact a.sub _ _ e
  base := a.base
  grow := a.grow
  keep := fun b x e m => by
    rw [upd_ne (fun z => by rw [z, h0] at e; cases e)]
    exact a.keep _ _ e m
  there := fun b x e => by
    rw [upd_ne (fun z => by rw [z, h0] at e; cases e)]
    exact a.there _ _ e
  sh := a.sh
  own := fun i s p e es => by
    obtain ⟨c, o', k1, k2, k3, k4, k5, k6⟩ := a.own i s p e es
    refine ⟨c, o', k1, k2, k3, k4, ?_, k6⟩
    rw [upd_ne, k5]
    intro z
    subst z
    exact hn i s p e es k1
  dis := a.dis
/-- a comprehension's walk: in its block nothing is raised -/
theorem lc_inner {g : TG} {dg : DenG} {tt : TT} {dt : DenB} {te : TE} {de : Den} {own : List Nat} {H₀ S₀ : Hp} {M : Addr → Prop} {S1 H1 : Hp} {σ : St} {ρ1 : Env} {Q : VK} {xs : List PV} {J : It} (hg : GOk K g dg) (hgw : TgW own g) (hgm : GMono g) (ht : TOk K mg (fun _ _ _ _ => False) tt dt) (he : EOk K mg (fun _ _ _ _ => False) te de) (a1 : Abs K H₀ S₀ M S1 σ H1 ρ1) (rj : ItR K S1 H1 xs J)
    (hp : Post K mg W (rF K) H₀ S₀ M σ (match lcLoop own dg dt de xs (lockE own ρ1) with
      | some (ys, ρ2) => if ys.length ≤ 1000000 then .ok (.lst ys) (backE own ρ1 ρ2) else .bad
      | none => .bad) Q) : ∀ D, H1 D = none → ∃ W : Nat → Nat → Hp → Prop, (∃ m, W 0 m (upd H1 D (.lst []))) ∧ ∀ i m H, W i m H →
  (J.stop i H ∧ Q (.ref D) H) ∨ (J.go i H ∧ ∃ Nx : Hp → Prop, (∀ H', Nx H' → ∃ m', m' < m ∧ W (i + 1) m' H') ∧ ∀ x H', J.yld i H x H' → g x (wipe σ own) H' fun σ2 H2 => wipe σ2 own = wipe σ own ∧ tt σ2 H2 fun b H3 =>
    if b = true then te σ2 H3 fun y H4 => ∃ acc, H4 D = some (.lst acc) ∧ acc.length < sizeLine ∧ Nx (upd H4 D (.lst (acc ++ [y]))) else Nx H3) := by
  intro D hD
  cases eL : lcLoop own dg dt de xs (lockE own ρ1) with
  | none => simp only [eL] at hp; exact hp.elim
  | some yr =>
    obtain ⟨ys, ρ2⟩ := yr
    simp only [eL] at hp
    by_cases hlen : ys.length ≤ 1000000
    · rw [if_pos hlen] at hp
      have hsz : (1000000 : Nat) < sizeLine := by rw [sizeLine_eq]; decide
      have nL : ¬ Lent σ ρ1 D := fun ⟨i, s, p, h1, h2, h3⟩ => by
        obtain ⟨c, o, k1, _, _, _, k5, _⟩ := a1.own i s p h1 h2
        rw [h3] at k1
        cases k1
        rw [hD] at k5; cases k5
      have nOwn : ∀ {S' : Hp} {σ' : St} {H' : Hp} {ρ' : Env}, Abs K H1 S1 (Lent σ ρ1) S' σ' H' ρ' → ∀ (i : Nat) s p, ρ'[i]? = some s → s.own? = some p → noOw ρ' = true → σ'[i]? ≠ some (some (.ref D)) := fun {S' σ' H' ρ'} a i s p e es no z => by
        obtain ⟨c, o, k1, k2, k3, _⟩ := a.own i s p e es
        rw [z] at k1
        cases k1
        cases s with
        | io q => cases es; exact nL (k3 rfl)
        | ow q => exact noOw_get no e
        | un => cases es
        | sh q => cases es
      refine ⟨fun i m H => m = xs.length - i ∧ i ≤ xs.length ∧ ∃ S ρ acc ps zs, Abs K H1 S1 (Lent σ ρ1) S (wipe σ own) H ρ ∧ noOw ρ = true ∧ H D = some (.lst acc) ∧ S D = none ∧ RepL K S ps acc ∧ lcLoop own dg dt de (xs.drop i) ρ = some (zs, ρ2) ∧ ys = ps ++ zs,
        ⟨xs.length, by simp, Nat.zero_le _, S1, lockE own ρ1, [], [], ys, (a1.enter own).step (Step.hid a1.sub hD), noOw_lockE _ _, upd_same, Same.free a1.sub hD, .nil, by rw [List.drop_zero]; exact eL, rfl⟩, ?_⟩
      rintro i m H' ⟨rfl, hle, S', ρ', acc, ps, zs, a', no', hD', sD', rp, eL', eys⟩
      obtain ⟨js, jg⟩ := rj i S' H' a'.base a'.sub
      by_cases hlt : i < xs.length
      · have ex : xs[i]? = some xs[i] := List.getElem?_eq_getElem hlt
        obtain ⟨j1, j2⟩ := jg _ ex
        rw [List.drop_eq_getElem_cons hlt] at eL'
        unfold lcLoop at eL'
        cases e1 : dg xs[i] ρ' with
        | none => simp only [e1] at eL'; cases eL'
        | some ρa =>
          simp only [e1] at eL'
          refine .inr ⟨j1, fun H => i + 1 ≤ xs.length ∧ ∃ S ρ acc ps zs, Abs K H1 S1 (Lent σ ρ1) S (wipe σ own) H ρ ∧ noOw ρ = true ∧ H D = some (.lst acc) ∧ S D = none ∧ RepL K S ps acc ∧ lcLoop own dg dt de (xs.drop (i + 1)) ρ = some (zs, ρ2) ∧ ys = ps ++ zs,
            fun H2 hN => ⟨xs.length - (i + 1), by omega, rfl, hN.1, hN.2⟩, fun x H2 y => ?_⟩
          obtain ⟨S2, st, rx⟩ := j2 x H2 y
          have aS := a'.step st
          have aT : Abs K H2 S2 (Lent σ ρ1) S2 (wipe σ own) H2 ρ' := aS.here no'
          have D2 : H2 D = some (.lst acc) := st.h _ _ hD'
          have sD2 : S2 D = none := by
            cases q : S2 D with
            | none => rfl
            | some o =>
              rcases st.new D o q with z | z | ⟨us, z⟩
              · rw [sD'] at z; cases z
              · rw [hD'] at z; cases z
              · subst z
                have z := (aS.sub _ _ q).symm.trans D2
                cases z
          have hg1 := hg H2 S2 (Lent σ ρ1) S2 (wipe σ own) H2 ρ' ρa xs[i] x (fun σ2 H2' => H2' = H2 ∧ Abs K H2 S2 (Lent σ ρ1) S2 σ2 H2 ρa) aT rx e1 fun σ2 a2 => ⟨rfl, a2⟩
          have hg2 := hgw x (wipe σ own) H2 _ hg1
          have body : ∀ σ2 H2', (wipe σ2 own = wipe (wipe σ own) own ∧ H2' = H2 ∧ Abs K H2 S2 (Lent σ ρ1) S2 σ2 H2 ρa) → (wipe σ2 own = wipe σ own ∧ tt σ2 H2' fun b H3 =>
              if b = true then te σ2 H3 fun y H4 => ∃ acc, H4 D = some (.lst acc) ∧ acc.length < sizeLine ∧ (fun H => i + 1 ≤ xs.length ∧ ∃ S ρ acc ps zs, Abs K H1 S1 (Lent σ ρ1) S (wipe σ own) H ρ ∧ noOw ρ = true ∧ H D = some (.lst acc) ∧ S D = none ∧ RepL K S ps acc ∧ lcLoop own dg dt de (xs.drop (i + 1)) ρ = some (zs, ρ2) ∧ ys = ps ++ zs) (upd H4 D (.lst (acc ++ [y])))
              else (fun H => i + 1 ≤ xs.length ∧ ∃ S ρ acc ps zs, Abs K H1 S1 (Lent σ ρ1) S (wipe σ own) H ρ ∧ noOw ρ = true ∧ H D = some (.lst acc) ∧ S D = none ∧ RepL K S ps acc ∧ lcLoop own dg dt de (xs.drop (i + 1)) ρ = some (zs, ρ2) ∧ ys = ps ++ zs) H3) := by
            rintro σ2 H2' ⟨hw, rfl, a2⟩
            rw [wipe_wipe] at hw
            refine ⟨hw, ?_⟩
            -- back to the wiped slots
            have bk : ∀ {S3 H3 : Hp} {ρ3 : Env}, Abs K H2' S2 (Lent σ ρ1) S3 σ2 H3 ρ3 → noOw ρ3 = true → Abs K H1 S1 (Lent σ ρ1) S3 (wipe σ own) H3 (wipeE own ρ3) := fun {S3 H3 ρ3} a3 no3 => by
              refine (aS.along a3 no3).forget ?_ fun j s e n => ?_
              · rw [wipeE_length, a3.len, ← wipe_len σ2 own, hw]
              · obtain ⟨h1, h2⟩ := wipeE_get e n
                refine ⟨h2, ?_⟩
                rw [← hw, getElem?_wipe h1]
            have kD : ∀ {S3 H3 : Hp} {ρ3 : Env}, Abs K H2' S2 (Lent σ ρ1) S3 σ2 H3 ρ3 → H3 D = some (.lst acc) ∧ S3 D = none := fun {S3 H3 ρ3} a3 => by
              refine ⟨a3.keep D _ D2 nL, ?_⟩
              cases q : S3 D with
              | none => rfl
              | some o =>
                rcases a3.grow D o q with z | z | ⟨us, z⟩
                · rw [sD2] at z; cases z
                · rw [D2] at z; cases z
                · subst z
                  have z := (a3.sub _ _ q).symm.trans (a3.keep D _ D2 nL)
                  cases z
            refine ht H2' S2 (Lent σ ρ1) S2 σ2 H2' ρa _ a2 ?_
            cases e2 : dt ρa with
            | bad => simp only [e2] at eL'; cases eL'
            | exc x ρb => simp only [e2] at eL'; cases eL'
            | ok b ρb =>
              intro b' S3 H3 a3 rb
              cases rb
              simp only [e2] at eL'
              cases b with
              | false =>
                simp only [Bool.false_eq_true, if_false]
                by_cases no3 : noOw ρb = true
                · simp only [if_pos no3] at eL'
                  obtain ⟨d1, d2⟩ := kD a3
                  exact ⟨hlt, S3, wipeE own ρb, acc, ps, zs, bk a3 no3, noOw_wipeE _ _ no3, d1, d2, rp.up (st.s.trans a3.base), eL', eys⟩
                · simp only [if_neg no3] at eL'; cases eL'
              | true =>
                simp only [if_true]
                have a3' : Abs K H2' S3 (Lent σ ρ1) S3 σ2 H3 ρb := a3.rebase
                refine he H2' S3 (Lent σ ρ1) S3 σ2 H3 ρb _ a3' ?_
                cases e3 : de ρb with
                | bad => simp only [e3] at eL'; cases eL'
                | exc x ρc => simp only [e3] at eL'; cases eL'
                | ok y ρc =>
                  intro z S4 H4 a4' rz
                  have a4 := a3.unbase a4'
                  simp only [e3] at eL'
                  by_cases no4 : noOw ρc = true
                  · simp only [if_pos no4] at eL'
                    cases e5 : lcLoop own dg dt de (xs.drop (i + 1)) (wipeE own ρc) with
                    | none => simp only [e5] at eL'; cases eL'
                    | some yr =>
                      obtain ⟨ys', ρ4⟩ := yr
                      simp only [e5] at eL'
                      cases eL'
                      obtain ⟨d1, d2⟩ := kD a4
                      have hl : acc.length < 1000000 := by
                        have z1 := rp.length
                        have z2 := congrArg List.length eys
                        rw [List.length_append, List.length_cons] at z2
                        omega
                      refine ⟨acc, d1, by omega, hlt, S4, wipeE own ρc, acc ++ [z], ps ++ [y], ys', (bk a4 no4).other hD d2 fun j s p e es => nOwn (bk a4 no4) j s p e es (noOw_wipeE _ _ no4), noOw_wipeE _ _ no4, upd_same, d2,
                        (rp.up (st.s.trans a4.base)).append (.cons rz .nil), e5, by rw [eys, List.append_assoc]; rfl⟩
                  · simp only [if_neg no4] at eL'; cases eL'
          exact hgm x (wipe σ own) H2 _ _ body hg2
      · have ei : i = xs.length := by omega
        subst ei
        rw [List.drop_length] at eL'
        unfold lcLoop at eL'
        cases eL'
        rw [List.append_nil] at eys
        subst eys
        refine .inl ⟨js (Nat.le_refl _), hp (.ref D) S' H' (a1.exit a') ⟨D, .lst acc, rfl, a1.none0 hD, sD', hD', rp, fun j s q ej es z => ?_⟩⟩
        have a2 := a1.exit a'
        obtain ⟨c, o, k1, k2, k3, k4, k5, k6⟩ := a2.own j s q ej es
        rcases backE_get ej (by intro w; subst w; cases es) with ⟨_, q', hq, _⟩ | ⟨h1, t, t', h2, h3, h4⟩
        · subst hq; cases es
        · have ht : ∃ p, t'.own? = some p := by
            cases t <;> cases t' <;> simp [Sl.back] at h4 <;> subst h4 <;> first | (cases es; done) | exact ⟨_, rfl⟩
          obtain ⟨p, hp'⟩ := ht
          exact nOwn a' j t' p h3 hp' no' (by rw [getElem?_wipe h1]; exact z)
    · rw [if_neg hlen] at hp
      exact hp.elim
theorem fo_lc {wi : TI} {di : DenL} {g : TG} {dg : DenG} {tt : TT} {dt : DenB} {te : TE} {de : Den} {own : List Nat} (hi : IOk K mg W wi di) (hg : GOk K g dg) (hgw : TgW own g) (hgm : GMono g) (ht : TOk K mg (fun _ _ _ _ => False) tt dt) (he : EOk K mg (fun _ _ _ _ => False) te de) :
    FOk K mg W (tLc wi g tt te own) (dLc own di dg dt de) := fun H₀ S₀ M S σ H ρ Q ab hp =>
  hi.bind (Rl' := rF K) ab hp fun xs ρ1 J S1 H1 _ a1 _ rj hp => lc_inner hg hgw hgm ht he a1 rj hp
end
end PL

set_option Elab.async false
set_option linter.all false
set_option maxRecDepth 100000
set_option maxHeartbeats 4000000
namespace PL
open PySem PySem.Spec L2
set_option autoImplicit false

/-! ### defs: what they are promised to be -/
inductive FR where
  | bad | exc (x : Exn) | ok (p : PV) (q : PV)
/-- the parameters' slots at the entry; io: the first one is an object that the def may change -/
def argSl (io : Bool) (ps : List PV) : Env := match io, ps with
  | true, p :: r => .io p :: r.map .sh
  | _, ps => ps.map .sh
def ioSet (io : Bool) (ps : List PV) (q : PV) : List PV := if io = true then ps.set 0 q else ps
def spD (K : PySem.W.Frag) (mg : Str → Option Value) (io fr : Bool) (n : Nat) (F : List PV → FR) : Sp := fun vs H Q E => vs.length = n ∧ ∃ (S : Hp) (M : Addr → Prop) (ps : List PV),
  (∀ a b, M a → M b → a = b) ∧ Abs K H S M S (vs.map some) H (argSl io ps) ∧ (io = true → ps ≠ []) ∧
  match F ps with
  | .bad => False
  | .exc x => ∀ cls d S' H', Abs K H S M S' [] H' [] → ExcRep K mg S' H' x cls d → E cls d H'
  | .ok p q => ∀ v S' H', Abs K H S M S' (vs.map some) H' (argSl io (ioSet io ps q)) → RetRep fr K H S' H' [] [] p v → Q v H'
def io0 : Env → Option PV
  | .io q :: _ => some q
  | _ => none
theorem io0_get {ρ : Env} {q : PV} (h : io0 ρ = some q) : ρ[0]? = some (.io q) := by
  unfold io0 at h
  split at h
  · cases h; rfl
  · cases h
def fin0 (io : Bool) (p : PV) (ρ : Env) : FR := if io = true then (match io0 ρ with
  | some q => .ok p q
  | none => .bad) else .ok p .non
def runD (io fr : Bool) (n len : Nat) (d : DenS) (ps : List PV) : FR :=
  if ps.length = n then
    match d (argSl io ps ++ List.replicate (len - n) .un) with
    | .rt p ρ => fin0 io p ρ
    | .nx ρ => if fr = true then .bad else fin0 io .non ρ
    | .exc x _ => .exc x
    | _ => .bad
  else .bad
theorem argSl_length (io : Bool) (ps : List PV) : (argSl io ps).length = ps.length := by
  unfold argSl
  split <;> simp
theorem argSl_get {io : Bool} {ps : List PV} {i : Nat} {s : Sl} (e : (argSl io ps)[i]? = some s) : ∃ p, ps[i]? = some p ∧ ((s = .sh p ∧ (io = true → i ≠ 0)) ∨ (s = .io p ∧ io = true ∧ i = 0)) := by
  unfold argSl at e
  split at e
  · rename_i p r
    cases i with
    | zero =>
      simp at e
      exact ⟨p, rfl, .inr ⟨e.symm, rfl, rfl⟩⟩
    | succ j =>
      simp at e
      obtain ⟨q, h1, h2⟩ := e
      exact ⟨q, by simpa using h1, .inl ⟨h2.symm, fun _ => by simp⟩⟩
  · rename_i hio
    rw [List.getElem?_map] at e
    cases h : ps[i]? with
    | none => rw [h] at e; cases e
    | some p =>
      rw [h] at e
      cases e
      refine ⟨p, rfl, .inl ⟨rfl, fun z => ?_⟩⟩
      subst z
      cases ps with
      | nil => simp at h
      | cons a r => exact (hio a r rfl rfl).elim
section
variable {K : PySem.W.Frag} {mg : Str → Option Value} {W : WX} {fr : Bool} {H₀ S₀ : Hp} {M : Addr → Prop} {S H : Hp} {σ : St} {ρ : Env}
/-- nothing is known of the slots -/
theorem Abs.bare (a : Abs K H₀ S₀ M S σ H ρ) : Abs K H₀ S₀ M S [] H [] := a.forget rfl fun i s e => by simp at e
/-- what a call without a lent object did -/
theorem Abs.toStep {S' H' : Hp} {σ' : St} {ρ' : Env} {M : Addr → Prop} (a : Abs K H S M S' σ' H' ρ') (h : ∀ b, ¬ M b) : Step S H S' H' :=
  ⟨a.base, fun b o e => a.keep b o e (h b), a.sub, a.grow⟩
def dCall (F : List PV → FR) (da : DenL) : Den := fun ρ => (da ρ).bind fun ps ρ1 => match F ps with
  | .bad => .bad
  | .exc x => .exc x ρ1
  | .ok p _ => .ok p ρ1
theorem call_pre {n : Nat} {F : List PV → FR} {fr' : Bool} {vs : List V} {ps : List PV} {Q : VK} {E : XK} (a : Abs K H₀ S₀ M S σ H ρ) (r : RepL K S ps vs) (hl : ps.length = n)
    (h : match F ps with
      | .bad => False
      | .exc x => ∀ cls d S' H', Step S H S' H' → ExcRep K mg S' H' x cls d → E cls d H'
      | .ok p q => ∀ v S' H', Step S H S' H' → RetRep fr' K H S' H' [] [] p v → Q v H') : spD K mg false fr' n F vs H Q E := by
  refine ⟨by rw [← r.length, hl], S, fun _ => False, ps, fun _ _ z => z.elim, ⟨?_, a.sub, Same.refl _, fun _ _ e => .inl e, fun _ _ e _ => e, fun b o e => ⟨o, e⟩, fun i p e => ?_, fun i s p e es => ?_, fun i j s t p q c e es => ?_⟩, (fun z => by cases z), ?_⟩
  · rw [argSl_length, List.length_map, r.length]
  · obtain ⟨p', h1, h2⟩ := argSl_get e
    rcases h2 with ⟨h2, _⟩ | ⟨_, z, _⟩
    · cases h2
      obtain ⟨v, h3, h4⟩ := r.get h1
      exact ⟨v, by rw [List.getElem?_map, h3]; rfl, h4⟩
    · cases z
  · obtain ⟨p', h1, h2⟩ := argSl_get e
    rcases h2 with ⟨h2, _⟩ | ⟨_, z, _⟩
    · subst h2; cases es
    · cases z
  · obtain ⟨p', h1, h2⟩ := argSl_get e
    rcases h2 with ⟨h2, _⟩ | ⟨_, z, _⟩
    · subst h2; cases es
    · cases z
  · cases e : F ps with
    | bad => simp only [e] at h
    | exc x => simp only [e] at h; exact fun cls d S' H' a' => h cls d S' H' (a'.toStep fun _ z => z)
    | ok p q => simp only [e] at h; exact fun v S' H' a' => h v S' H' (a'.toStep fun _ z => z)
theorem eo_call {n : Nat} {F : List PV → FR} {ta : TA} {da : DenL} (ha : AOk K mg W ta da) (hn : ∀ ps, F ps ≠ .bad → ps.length = n) : EOk K mg W (tCallS (spD K mg false false n F) (WE W) ta) (dCall F da) := fun H₀ S₀ M S σ H ρ Q ab hp =>
  ha.bind (Rl' := rV K) ab hp fun ps ρ1 vs S1 H1 _ a1 _ r hp => by
    cases e : F ps with
    | bad => simp only [e] at hp; exact hp.elim
    | exc x =>
      simp only [e] at hp
      refine call_pre a1 r (hn ps (by rw [e]; intro z; cases z)) ?_
      simp only [e]
      exact fun cls d S' H' st re => hp cls d S' H' (a1.step st) re
    | ok p q =>
      simp only [e] at hp
      refine call_pre a1 r (hn ps (by rw [e]; intro z; cases z)) ?_
      simp only [e]
      exact fun v S' H' st rv => hp v S' H' (a1.step st) rv
theorem fresh_call {S' H' : Hp} {p : PV} {v : V} (a : Abs K H₀ S₀ M S σ H ρ) (f : Fr K H S' H' [] [] p v) : Fr K H₀ S' H' σ ρ p v := by
  obtain ⟨c, o, e, h1, h2, h3, h4, _⟩ := f
  refine ⟨c, o, e, a.none0 h1, h2, h3, h4, fun j s q ej es z => ?_⟩
  obtain ⟨c', o', k1, _, _, _, k5, _⟩ := a.own j s q ej es
  rw [z] at k1
  cases k1
  rw [h1] at k5; cases k5
theorem fo_call {n : Nat} {F : List PV → FR} {ta : TA} {da : DenL} (ha : AOk K mg W ta da) (hn : ∀ ps, F ps ≠ .bad → ps.length = n) : FOk K mg W (tCallS (spD K mg false true n F) (WE W) ta) (dCall F da) := fun H₀ S₀ M S σ H ρ Q ab hp =>
  ha.bind (Rl' := rF K) ab hp fun ps ρ1 vs S1 H1 _ a1 _ r hp => by
    cases e : F ps with
    | bad => simp only [e] at hp; exact hp.elim
    | exc x =>
      simp only [e] at hp
      refine call_pre a1 r (hn ps (by rw [e]; intro z; cases z)) ?_
      simp only [e]
      exact fun cls d S' H' st re => hp cls d S' H' (a1.step st) re
    | ok p q =>
      simp only [e] at hp
      refine call_pre a1 r (hn ps (by rw [e]; intro z; cases z)) ?_
      simp only [e]
      exact fun v S' H' st rv => hp v S' H' (a1.step st) (fresh_call a1 rv)

/-! ### a call that lends the first argument, an owned object in a slot -/
def dCallIo (F : List PV → FR) (i : Nat) (da : DenL) : Den := fun ρ => match ownAt ρ i with
  | none => .bad
  | some _ => (da ρ).bind fun ps ρ1 => match ownAt ρ1 i with
    | none => .bad
    | some (s, p) => match F (p :: ps) with
      | .bad => .bad
      | .exc x => .exc x (ρ1.set i .un)
      | .ok z q => .ok z (ρ1.set i (s.with q))
/-- behind a call that was lent the object at b -/
theorem Abs.lentBack {i : Nat} {s : Sl} {p q : PV} {b : Addr} {S' H' : Hp} {o' : HO} (a : Abs K H₀ S₀ M S σ H ρ) (e : ρ[i]? = some s) (es : s.own? = some p) (hb : σ[i]? = some (some (.ref b)))
    (st : Same S S' ∧ Same S' H' ∧ (∀ c o, S' c = some o → S c = some o ∨ NT H c o) ∧ (∀ c o, H c = some o → c ≠ b → H' c = some o) ∧ ∀ c o, H c = some o → ∃ o', H' c = some o') (hS : S' b = none) (hH : H' b = some o') (w : OwnO K S' q o') :
    Abs K H₀ S₀ M S' σ H' (ρ.set i (s.with q)) := by
  obtain ⟨s1, s2, s3, s4, s5⟩ := st
  obtain ⟨b', ob, h1, h2, h3, h4, h5, h6⟩ := a.own i s p e es
  rw [hb] at h1
  cases h1
  have hi : i < ρ.length := (List.getElem?_eq_some_iff.mp e).1
  have hw : (s.with q).own? = some q := by
    cases s with
    | ow r => rfl
    | io r => rfl
    | un => cases es
    | sh r => cases es
  have nb : ∀ c o, H₀ c = some o → ¬ M c → c ≠ b := fun c o e0 m z => by
    subst z
    cases s with
    | ow r => cases es; rw [h2 rfl] at e0; cases e0
    | io r => cases es; exact m (h3 rfl)
    | un => cases es
    | sh r => cases es
  refine ⟨by rw [List.length_set]; exact a.len, s2, a.base.trans s1, fun c o z => ?_, fun c o z m => s4 c o (a.keep c o z m) (nb c o z m), fun c o z => ?_, fun j r ej => ?_, fun j t r ej et => ?_, fun j k t u r r' c ej et ek eu z z' => ?_⟩
  · rcases s3 c o z with z | z
    · exact a.grow c o z
    · exact .inr (a.nt0 z)
  · obtain ⟨o1, h⟩ := a.there c o z
    exact s5 c o1 h
  · by_cases hj : j = i
    · subst hj
      rw [List.getElem?_set_self hi] at ej
      have z := Option.some.inj ej
      rw [z] at hw; cases hw
    · rw [List.getElem?_set_ne (Ne.symm hj)] at ej
      obtain ⟨v, k1, k2⟩ := a.sh j r ej
      exact ⟨v, k1, k2.up s1⟩
  · by_cases hj : j = i
    · subst hj
      rw [List.getElem?_set_self hi] at ej
      have z := Option.some.inj ej
      subst z
      rw [hw] at et
      cases et
      refine ⟨b, o', hb, fun z => ?_, fun z => ?_, hS, hH, w⟩
      · cases s with
        | ow r => cases es; exact h2 rfl
        | io r => cases z
        | un => cases es
        | sh r => cases es
      · cases s with
        | io r => cases es; exact h3 rfl
        | ow r => cases z
        | un => cases es
        | sh r => cases es
    · rw [List.getElem?_set_ne (Ne.symm hj)] at ej
      obtain ⟨c, o2, z1, z2, z3, z4, z5, z6⟩ := a.own j t r ej et
      have hc : c ≠ b := fun z => by
        subst z
        exact hj (a.dis j i _ _ _ _ c ej et e es z1 hb)
      refine ⟨c, o2, z1, z2, z3, ?_, s4 c o2 z5 hc, z6.up s1⟩
      cases q' : S' c with
      | none => rfl
      | some o3 =>
        rcases s3 c o3 q' with z | z | ⟨us, z⟩
        · rw [z4] at z; cases z
        · rw [z5] at z; cases z
        · subst z
          have z := (s2 _ _ q').symm.trans (s4 c o2 z5 hc)
          cases z
          exact (OwnO.noTup z6).elim
  · have key : ∀ {j : Nat} {t : Sl} {r : PV}, (ρ.set i (s.with q))[j]? = some t → t.own? = some r → ∃ t' r', ρ[j]? = some t' ∧ t'.own? = some r' := fun {j t r} ej et => by
      by_cases hj : j = i
      · subst hj; exact ⟨s, p, e, es⟩
      · rw [List.getElem?_set_ne (Ne.symm hj)] at ej; exact ⟨t, r, ej, et⟩
    obtain ⟨t1, r1, e1, e2⟩ := key ej et
    obtain ⟨t2, r2, e3, e4⟩ := key ek eu
    exact a.dis j k _ _ _ _ c e1 e2 e3 e4 z z'
theorem Abs.lentGone {i : Nat} {s : Sl} {p : PV} {b : Addr} {S' H' : Hp} (a : Abs K H₀ S₀ M S σ H ρ) (e : ρ[i]? = some s) (es : s.own? = some p) (hb : σ[i]? = some (some (.ref b)))
    (st : Same S S' ∧ Same S' H' ∧ (∀ c o, S' c = some o → S c = some o ∨ NT H c o) ∧ (∀ c o, H c = some o → c ≠ b → H' c = some o) ∧ ∀ c o, H c = some o → ∃ o', H' c = some o') :
    Abs K H₀ S₀ M S' σ H' (ρ.set i .un) := by
  obtain ⟨s1, s2, s3, s4, s5⟩ := st
  obtain ⟨b', ob, h1, h2, h3, h4, h5, h6⟩ := a.own i s p e es
  rw [hb] at h1
  cases h1
  have hi : i < ρ.length := (List.getElem?_eq_some_iff.mp e).1
  have nb : ∀ c o, H₀ c = some o → ¬ M c → c ≠ b := fun c o e0 m z => by
    subst z
    cases s with
    | ow r => cases es; rw [h2 rfl] at e0; cases e0
    | io r => cases es; exact m (h3 rfl)
    | un => cases es
    | sh r => cases es
  have ne : ∀ {j : Nat} {s : Sl}, (ρ.set i .un)[j]? = some s → s ≠ .un → j ≠ i ∧ ρ[j]? = some s := fun {j s} ej hs => by
    by_cases hj : j = i
    · subst hj
      rw [List.getElem?_set_self hi] at ej
      cases ej
      exact absurd rfl hs
    · rw [List.getElem?_set_ne (Ne.symm hj)] at ej
      exact ⟨hj, ej⟩
  have nu : ∀ {s : Sl} {q : PV}, s.own? = some q → s ≠ .un := fun {s q} h z => by subst z; cases h
  refine ⟨by rw [List.length_set]; exact a.len, s2, a.base.trans s1, fun c o z => ?_, fun c o z m => s4 c o (a.keep c o z m) (nb c o z m), fun c o z => ?_, fun j r ej => ?_, fun j t r ej et => ?_, fun j k t u r r' c ej et ek eu z z' => ?_⟩
  · rcases s3 c o z with z | z
    · exact a.grow c o z
    · exact .inr (a.nt0 z)
  · obtain ⟨o1, h⟩ := a.there c o z
    exact s5 c o1 h
  · obtain ⟨v, k1, k2⟩ := a.sh j r (ne ej (by intro z; cases z)).2
    exact ⟨v, k1, k2.up s1⟩
  · obtain ⟨hj, ej⟩ := ne ej (nu et)
    obtain ⟨c, o2, z1, z2, z3, z4, z5, z6⟩ := a.own j t r ej et
    have hc : c ≠ b := fun z => by
      subst z
      exact hj (a.dis j i _ _ _ _ c ej et e es z1 hb)
    refine ⟨c, o2, z1, z2, z3, ?_, s4 c o2 z5 hc, z6.up s1⟩
    cases q' : S' c with
    | none => rfl
    | some o3 =>
      rcases s3 c o3 q' with z | z | ⟨us, z⟩
      · rw [z4] at z; cases z
      · rw [z5] at z; cases z
      · subst z
        have z := (s2 _ _ q').symm.trans (s4 c o2 z5 hc)
        cases z
        exact (OwnO.noTup z6).elim
  · exact a.dis j k t u r r' c (ne ej (nu et)).2 et (ne ek (nu eu)).2 eu z z'
theorem callIo_pre {n : Nat} {F : List PV → FR} {fr' : Bool} {i : Nat} {s : Sl} {p : PV} {b : Addr} {vs : List V} {ps : List PV} {Q : VK} {E : XK} (a : Abs K H₀ S₀ M S σ H ρ) (e : ρ[i]? = some s) (es : s.own? = some p) (hb : σ[i]? = some (some (.ref b))) (r : RepL K S ps vs) (hl : ps.length + 1 = n)
    (h : match F (p :: ps) with
      | .bad => False
      | .exc x => ∀ cls d S' H', Abs K H₀ S₀ M S' σ H' (ρ.set i .un) → ExcRep K mg S' H' x cls d → E cls d H'
      | .ok z q => ∀ v S' H', Abs K H₀ S₀ M S' σ H' (ρ.set i (s.with q)) → RetRep fr' K H₀ S' H' σ (ρ.set i (s.with q)) z v → Q v H') : spD K mg true fr' n F (.ref b :: vs) H Q E := by
  obtain ⟨b', ob, h1, h2, h3, h4, h5, h6⟩ := a.own i s p e es
  rw [hb] at h1
  cases h1
  refine ⟨by rw [List.length_cons, ← r.length]; exact hl, S, fun c => c = b, p :: ps, fun _ _ z z' => z.trans z'.symm, ⟨?_, a.sub, Same.refl _, fun _ _ e => .inl e, fun _ _ e _ => e, fun b o e => ⟨o, e⟩, fun j q ej => ?_, fun j t q ej et => ?_, fun j k t u q q' c ej et ek eu _ _ => ?_⟩, (fun _ z => by cases z), ?_⟩
  · rw [argSl_length, List.length_map, List.length_cons, List.length_cons, r.length]
  · obtain ⟨p', k1, k2⟩ := argSl_get ej
    rcases k2 with ⟨k2, k3⟩ | ⟨k2, _, _⟩
    · cases k2
      cases j with
      | zero => exact absurd rfl (k3 rfl)
      | succ j =>
        obtain ⟨v, h3, h4⟩ := r.get (i := j) (by simpa using k1)
        exact ⟨v, by rw [List.getElem?_map, List.getElem?_cons_succ, h3]; rfl, h4⟩
    · cases k2
  · obtain ⟨p', k1, k2⟩ := argSl_get ej
    rcases k2 with ⟨k2, _⟩ | ⟨k2, _, k3⟩
    · subst k2; cases et
    · subst k2; subst k3
      cases et
      cases k1
      exact ⟨b, ob, rfl, (fun z => by cases z), fun _ => rfl, h4, h5, h6⟩
  · obtain ⟨_, _, k2⟩ := argSl_get ej
    obtain ⟨_, _, k4⟩ := argSl_get ek
    rcases k2 with ⟨k2, _⟩ | ⟨_, _, k3⟩
    · subst k2; cases et
    · rcases k4 with ⟨k4, _⟩ | ⟨_, _, k5⟩
      · subst k4; cases eu
      · rw [k3, k5]
  · have facts : ∀ {S' H' : Hp} {σ' : St} {ρ' : Env}, Abs K H S (fun c => c = b) S' σ' H' ρ' → Same S S' ∧ Same S' H' ∧ (∀ c o, S' c = some o → S c = some o ∨ NT H c o) ∧ (∀ c o, H c = some o → c ≠ b → H' c = some o) ∧ ∀ c o, H c = some o → ∃ o', H' c = some o' :=
      fun {S' H' σ' ρ'} a' => ⟨a'.base, a'.sub, a'.grow, fun c o z n => a'.keep c o z n, a'.there⟩
    cases eF : F (p :: ps) with
    | bad => simp only [eF] at h
    | exc x =>
      simp only [eF] at h
      exact fun cls d S' H' a' => h cls d S' H' (a.lentGone e es hb (facts a'))
    | ok z q =>
      simp only [eF] at h
      intro v S' H' a' rv
      obtain ⟨c, o', k1, k2, k3, k4, k5, k6⟩ := a'.own 0 (.io q) q (by simp [argSl, ioSet]) rfl
      have hc : c = b := k3 rfl
      subst hc
      have aN := a.lentBack e es hb (facts a') k4 k5 k6
      refine h v S' H' aN ?_
      unfold RetRep at rv ⊢
      cases fr' with
      | false => simpa using rv
      | true =>
        simp only [if_true] at rv ⊢
        obtain ⟨c', o2, e2, f1, f2, f3, f4, _⟩ := rv
        refine ⟨c', o2, e2, a.none0 f1, f2, f3, f4, fun j t r ej et z => ?_⟩
        have key : ∃ t' r', ρ[j]? = some t' ∧ t'.own? = some r' := by
          by_cases hj : j = i
          · subst hj; exact ⟨s, p, e, es⟩
          · rw [List.getElem?_set_ne (Ne.symm hj)] at ej; exact ⟨t, r, ej, et⟩
        obtain ⟨t', r', e3, e4⟩ := key
        obtain ⟨c3, o3, y1, _, _, _, y5, _⟩ := a.own j t' r' e3 e4
        rw [z] at y1
        cases y1
        rw [f1] at y5; cases y5
theorem XOk.callIo {n : Nat} {F : List PV → FR} {fr' : Bool} {i : Nat} {ta : TA} {da : DenL} (ha : AOk K mg W ta da) (hn : ∀ ps, F ps ≠ .bad → ps.length = n) (Rl : RelT PV V) (hR : ∀ H₀ S H σ ρ p v, RetRep fr' K H₀ S H σ ρ p v → Rl H₀ S H σ ρ p v) :
    XOk K mg W Rl (tCallS (spD K mg true fr' n F) (WE W) (tCons (tVar i) ta)) (dCallIo F i da) := fun H₀ S₀ M S σ H ρ Q ab hp => by
  unfold dCallIo at hp
  cases e0 : ownAt ρ i with
  | none => rw [e0] at hp; exact hp.elim
  | some sp =>
    obtain ⟨s0, p0⟩ := sp
    rw [e0] at hp
    obtain ⟨e1, e2⟩ := ownAt_some e0
    obtain ⟨b, o, h1, _⟩ := ab.own i _ _ e1 e2
    refine ⟨.ref b, h1, ?_⟩
    refine ha.bind (Rl' := Rl) ab hp fun ps ρ1 vs S1 H1 _ a1 _ r hp => ?_
    cases e3 : ownAt ρ1 i with
    | none => rw [e3] at hp; exact hp.elim
    | some sp =>
      obtain ⟨s, p⟩ := sp
      rw [e3] at hp
      obtain ⟨e4, e5⟩ := ownAt_some e3
      cases eF : F (p :: ps) with
      | bad => simp only [eF] at hp; exact hp.elim
      | exc x =>
        simp only [eF] at hp
        refine callIo_pre a1 e4 e5 h1 r (by simpa using hn (p :: ps) (by rw [eF]; intro z; cases z)) ?_
        simp only [eF]
        exact fun cls d S' H' a2 re => hp cls d S' H' a2 re
      | ok z q =>
        simp only [eF] at hp
        refine callIo_pre a1 e4 e5 h1 r (by simpa using hn (p :: ps) (by rw [eF]; intro z; cases z)) ?_
        simp only [eF]
        exact fun v S' H' a2 rv => hp v S' H' a2 (hR _ _ _ _ _ _ _ rv)
theorem eo_callIo {n : Nat} {F : List PV → FR} {i : Nat} {ta : TA} {da : DenL} (ha : AOk K mg W ta da) (hn : ∀ ps, F ps ≠ .bad → ps.length = n) : EOk K mg W (tCallS (spD K mg true false n F) (WE W) (tCons (tVar i) ta)) (dCallIo F i da) :=
  XOk.callIo ha hn (rV K) fun _ _ _ _ _ _ _ h => h
theorem fo_callIo {n : Nat} {F : List PV → FR} {i : Nat} {ta : TA} {da : DenL} (ha : AOk K mg W ta da) (hn : ∀ ps, F ps ≠ .bad → ps.length = n) : FOk K mg W (tCallS (spD K mg true true n F) (WE W) (tCons (tVar i) ta)) (dCallIo F i da) :=
  XOk.callIo ha hn (rF K) fun _ _ _ _ _ _ _ h => h

/-! ### a def by its body -/
theorem body_ok {io fr : Bool} {n len : Nat} {t : TS} {d : DenS} {vs : List V} {H : Hp} {Q : VK} {E : XK} (hb : SOk K mg (fun cls dd _ H => E cls dd H) fr t d) (hl : n ≤ len) (h : spD K mg io fr n (runD io fr n len d) vs H Q E) :
    t { nx := fun _ H' => Q .non H', rt := Q } (vs.map some ++ List.replicate (len - vs.length) none) H := by
  obtain ⟨hv, S, M, ps, hM, ab, hne, h⟩ := h
  have hps : ps.length = n := by
    have z := ab.len
    rw [argSl_length, List.length_map] at z
    omega
  have start : Abs K H S M S (vs.map some ++ List.replicate (len - vs.length) none) H (argSl io ps ++ List.replicate (len - n) .un) := by
    refine ab.forget ?_ fun i s e hs => ?_
    · rw [List.length_append, List.length_append, argSl_length, List.length_replicate, List.length_replicate, List.length_map]
      omega
    · have hi : i < (argSl io ps).length := by
        rcases Nat.lt_or_ge i (argSl io ps).length with h | h
        · exact h
        · rw [List.getElem?_append_right h, List.getElem?_replicate] at e
          split at e
          · cases e; exact absurd rfl hs
          · cases e
      rw [List.getElem?_append_left hi] at e
      refine ⟨e, ?_⟩
      rw [List.getElem?_append_left (by rw [← ab.len]; exact hi)]
  -- back at the parameters
  have back : ∀ {S' : Hp} {σ' : St} {H' : Hp} {ρ' : Env} {q : PV}, Abs K H S M S' σ' H' ρ' → (io = true → ρ'[0]? = some (.io q)) → Abs K H S M S' (vs.map some) H' (argSl io (ioSet io ps q)) := fun {S' σ' H' ρ' q} a hq => by
    have il : (ioSet io ps q).length = ps.length := by unfold ioSet; split <;> simp
    refine ⟨by rw [argSl_length, il, ← argSl_length io ps]; exact ab.len, a.sub, a.base, a.grow, a.keep, a.there, fun i p e => ?_, fun i s p e es => ?_, fun i j s t p p' c e es e' es' z z' => ?_⟩
    · obtain ⟨p', k1, k2⟩ := argSl_get e
      rcases k2 with ⟨k2, k3⟩ | ⟨k2, _, _⟩
      · cases k2
        have e0 : ps[i]? = some p := by
          unfold ioSet at k1
          by_cases hio : io = true
          · rw [if_pos hio, List.getElem?_set_ne (Ne.symm (k3 hio))] at k1
            exact k1
          · rw [if_neg hio] at k1
            exact k1
        have e1 : (argSl io ps)[i]? = some (.sh p) := by
          unfold argSl
          split
          · rename_i r
            cases i with
            | zero => exact absurd rfl (k3 rfl)
            | succ i => simp at e0 ⊢; exact e0
          · simp [e0]
        obtain ⟨v, z1, z2⟩ := ab.sh i p e1
        exact ⟨v, z1, z2.up a.base⟩
      · cases k2
    · obtain ⟨p', k1, k2⟩ := argSl_get e
      rcases k2 with ⟨k2, k3⟩ | ⟨k2, hio, hi⟩
      · subst k2; cases es
      · subst k2; subst hi
        cases es
        unfold ioSet at k1
        rw [if_pos hio] at k1
        have hpq : p = q := by
          cases ps with
          | nil => simp at k1
          | cons a r => simp at k1; exact k1.symm
        subst hpq
        obtain ⟨c, o, z1, z2, z3, z4, z5, z6⟩ := a.own 0 _ _ (hq hio) rfl
        cases ps with
        | nil => exact absurd rfl (hne hio)
        | cons a0 r =>
          subst hio
          obtain ⟨c', o', y1, y2, y3, y4, y5, y6⟩ := ab.own 0 (.io a0) a0 (by simp [argSl]) rfl
          have hcc : c = c' := hM c c' (z3 rfl) (y3 rfl)
          subst hcc
          exact ⟨c, o, y1, (fun z => by cases z), fun _ => z3 rfl, z4, z5, z6⟩
    · obtain ⟨_, _, k2⟩ := argSl_get e
      obtain ⟨_, _, k4⟩ := argSl_get e'
      rcases k2 with ⟨k2, _⟩ | ⟨_, _, k3⟩
      · subst k2; cases es
      · rcases k4 with ⟨k4, _⟩ | ⟨_, _, k5⟩
        · subst k4; cases es'
        · rw [k3, k5]
  have rb : ∀ {S' : Hp} {σ' : St} {H' : Hp} {ρ' : Env} {p : PV} {v : V}, RetRep fr K H S' H' σ' ρ' p v → RetRep fr K H S' H' [] [] p v := fun {S' σ' H' ρ' p v} r => by
    unfold RetRep at r ⊢
    cases fr with
    | false => simpa using r
    | true =>
      simp only [if_true] at r ⊢
      obtain ⟨c, o, e, f1, f2, f3, f4, _⟩ := r
      exact ⟨c, o, e, f1, f2, f3, f4, fun j s q ej => by simp at ej⟩
  refine hb H S M S _ H _ _ start ?_
  unfold runD at h
  rw [if_pos hps] at h
  cases eR : d (argSl io ps ++ List.replicate (len - n) .un) with
  | bad => simp only [eR] at h
  | exc x ρ' => simp only [eR] at h; exact fun cls dd S' σ' H' a r => h cls dd S' H' a.bare r
  | bk ρ' => simp only [eR] at h
  | ct ρ' => simp only [eR] at h
  | nx ρ' =>
    simp only [eR] at h
    intro S' σ' H' a
    by_cases hf : fr = true
    · rw [if_pos hf] at h; exact h.elim
    · rw [if_neg hf] at h
      have rN : RetRep fr K H S' H' [] [] .non .non := by
        unfold RetRep
        rw [if_neg hf]
        exact .non
      unfold fin0 at h
      by_cases hio : io = true
      · rw [if_pos hio] at h
        cases e0 : io0 ρ' with
        | none => rw [e0] at h; exact h.elim
        | some q => rw [e0] at h; exact h .non S' H' (back a fun _ => io0_get e0) rN
      · rw [if_neg hio] at h
        exact h .non S' H' (back a fun z => absurd z hio) rN
  | rt p ρ' =>
    simp only [eR] at h
    intro v S' σ' H' a r
    unfold fin0 at h
    by_cases hio : io = true
    · rw [if_pos hio] at h
      cases e0 : io0 ρ' with
      | none => rw [e0] at h; exact h.elim
      | some q => rw [e0] at h; exact h v S' H' (back a fun _ => io0_get e0) (rb r)
    · rw [if_neg hio] at h
      exact h v S' H' (back a fun z => absurd z hio) (rb r)
end
/-- THE RULE for a def -/
theorem fn_ok {P : Program} {w : World} {K : PySem.W.Frag} {mg : Str → Option Value} {base : Heap} {x qual : Str} {st : Stmt} {f : Addr} {fd : FuncData} {N ps : List Str} {k : Nat} {io fr : Bool} {d : DenS} (F : Fun K x qual st f fd) (S : FnScope N ps (defScope st))
    (hl : ps.length ≤ N.length)
    (hbody : ∀ (cdv : Value) (A : Around) (outer : List PySem.Env) (s : Shared) (H : Hp) (E : XK), Room k (A.deeper (PyProof.Rows.envOfC qual (defScope st) s.heap.objs.size f cdv)) →
      ∃ t, PSs (cxOf (L2.CX P w) P w K mg base N qual (defScope st) f cdv A outer s H E) (defBody st) t ∧ SOk K mg (fun cls dd _ H => E cls dd H) fr t d) :
    FnOk P w K mg base (L2.CX P w) (k + 1) f fd ps (spD K mg io fr ps.length (runD io fr ps.length N.length d)) :=
  F.okX S (fun vs H Q E h => h.1) fun cdv A outer s H vs Q E hr h => by
    obtain ⟨t, h1, h2⟩ := hbody cdv A outer s H E hr
    refine ⟨t, h1, ?_⟩
    have z := body_ok h2 hl h
    exact z
/-- a promise by a function that agrees -/
theorem fn_eq {P : Program} {w : World} {K : PySem.W.Frag} {mg : Str → Option Value} {base : Heap} {CX : CXT} {k n : Nat} {f : Addr} {fd : FuncData} {ps : List Str} {io fr : Bool} {F G : List PV → FR} (h : FnOk P w K mg base CX k f fd ps (spD K mg io fr n F)) (e : ∀ ps, G ps ≠ .bad → F ps = G ps) :
    FnOk P w K mg base CX k f fd ps (spD K mg io fr n G) := h.imp fun vs H Q E q => by
  obtain ⟨h1, S, M, qs, h2, h3, h4, h5⟩ := q
  refine ⟨h1, S, M, qs, h2, h3, h4, ?_⟩
  cases eG : G qs with
  | bad => rw [eG] at h5; exact h5.elim
  | exc x => rw [e qs (by rw [eG]; intro z; cases z), eG]; rw [eG] at h5; exact h5
  | ok p q => rw [e qs (by rw [eG]; intro z; cases z), eG]; rw [eG] at h5; exact h5
end PL

set_option Elab.async false
set_option linter.all false
set_option maxRecDepth 100000
set_option maxHeartbeats 4000000
namespace PL
open PySem PySem.Spec L2
set_option autoImplicit false

/-! ### plain values as data -/
mutual
def PV.toD : PV → PyData
  | .non => .none
  | .bl b => .bool b
  | .int i => .int i
  | .str x => .str x
  | .lst ps => .list (toDs ps)
  | .tup ps => .tuple (toDs ps)
  | .ktup ps => .tuple (toDs ps)
  | .dic _ _ _ => .dict []
  | .fn _ => .dict []
  | .klst _ => .dict []
def toDs : List PV → List PyData
  | [] => []
  | p :: ps => p.toD :: toDs ps
end
section
variable {K : PySem.W.Frag} {S H : Hp}
mutual
theorem Rep.dp (e : Same S H) : ∀ (p : PV) (v : V), Rep K S p v → p.toD.canLay0 = true → Dp K H v p.toD
  | .non, _, h, _ => by cases h; exact .non
  | .bl b, _, h, _ => by cases h; exact .bl b
  | .int i, _, h, _ => by cases h; exact .int i
  | .str x, _, h, _ => by cases h; exact .str x
  | .fn a, _, h, c => by simp [PV.toD, PyData.canLay0] at c
  | .lst ps, _, h, c => by
    cases h with
    | lst h1 h2 => exact .lst (.inl (.inl (e _ _ h1))) (RepL.dp e ps _ h2 (by simpa [PV.toD, PyData.canLay0] using c))
  | .tup ps, _, h, c => by
    cases h with
    | tup h1 h2 => exact .tup (.inl (.inl (e _ _ h1))) (RepL.dp e ps _ h2 (by simpa [PV.toD, PyData.canLay0] using c))
  | .ktup ps, _, h, c => by
    cases h with
    | ktup h1 h2 => exact .tup (Same.tupK e h1) (RepL.dp e ps _ h2 (by simpa [PV.toD, PyData.canLay0] using c))
  | .dic t ks ps, _, h, c => by simp [PV.toD, PyData.canLay0] at c
  | .klst ps, _, h, c => by simp [PV.toD, PyData.canLay0] at c
theorem RepL.dp (e : Same S H) : ∀ (ps : List PV) (vs : List V), RepL K S ps vs → PyData.canLayAll0 (toDs ps) = true → DpAll K H vs (toDs ps)
  | [], _, h, _ => by cases h; exact .nil
  | p :: ps, _, h, c => by
    cases h with
    | cons h1 h2 =>
      have c' : p.toD.canLay0 = true ∧ PyData.canLayAll0 (toDs ps) = true := by simpa [toDs, PyData.canLayAll0] using c
      exact .cons (Rep.dp e p _ h1 c'.1) (RepL.dp e ps _ h2 c'.2)
end
end

/-! ### operations on plain values -/
def gAdd : PV → PV → Option PV
  | .int i, .int j => some (.int (i + j))
  | .str x, .str y => if x.length + y.length ≤ sizeLine then some (.str (x ++ y)) else none
  | .lst xs, .lst ys => if xs.length + ys.length ≤ sizeLine then some (.lst (xs ++ ys)) else none
  | .tup xs, .tup ys => if xs.length + ys.length ≤ sizeLine then some (.tup (xs ++ ys)) else none
  | _, _ => none
def gCat : PV → PV → Option PV := fun p q => match p, q with
    | .lst xs, .lst ys => if xs.length + ys.length ≤ sizeLine then some (.lst (xs ++ ys)) else none
    | _, _ => none
def gRep : PV → PV → Option PV := fun p q => match p, q with
    | .lst xs, .int k => if decide (-(2 ^ 63) ≤ k) && decide (k < 2 ^ 63) && decide (xs.length * k.toNat ≤ sizeLine) then some (.lst (List.replicate k.toNat xs).flatten) else none
    | _, _ => none
def gSub : PV → PV → Option PV
  | .int i, .int j => some (.int (i - j))
  | _, _ => none
def smallI (i : Int) : Bool := decide (-(2 ^ 64) < i) && decide (i < 2 ^ 64)
def gMul : PV → PV → Option PV
  | .int i, .int j => if smallI i || smallI j then some (.int (i * j)) else none
  | .lst xs, .int k => if decide (-(2 ^ 63) ≤ k) && decide (k < 2 ^ 63) && decide (xs.length * k.toNat ≤ sizeLine) then some (.lst (List.replicate k.toNat xs).flatten) else none
  | _, _ => none
def gFdiv : PV → PV → Option PV
  | .int i, .int j => if decide (0 < j) && decide (j < 1073741824) then some (.int (i / j)) else none
  | _, _ => none
def gMod : PV → PV → Option PV
  | .int i, .int j => if decide (0 < j) then some (.int (i % j)) else none
  | _, _ => none
def gPow : PV → PV → Option PV
  | .int i, .int j => if decide (0 ≤ j) && decide (j ≤ 1000000) && decide (i.natAbs < 2 ^ 64) then some (.int (i ^ j.toNat)) else none
  | _, _ => none
def gNeg : PV → Option PV
  | .int i => some (.int (-i))
  | _ => none
def gCmpI (f : Int → Int → Bool) : PV → PV → Option PV
  | .int i, .int j => some (.bl (f i j))
  | _, _ => none
abbrev gLt := gCmpI fun i j => decide (i < j)
abbrev gLe := gCmpI fun i j => decide (i ≤ j)
abbrev gGt := gCmpI fun i j => decide (j < i)
abbrev gGe := gCmpI fun i j => decide (j ≤ i)
def pvEq (p q : PV) : Bool := PyData.eqv p.toD q.toD
def gEq (p q : PV) : Option PV := if SeqAt.shaped p.toD && SeqAt.shaped q.toD then some (.bl (pvEq p q)) else none
def gNe (p q : PV) : Option PV := if SeqAt.shaped p.toD && SeqAt.shaped q.toD then some (.bl (!pvEq p q)) else none
def gIsN (neg : Bool) : PV → PV → Option PV
  | .non, .non => some (.bl (!neg))
  | .fn _, .non => none
  | _, .non => some (.bl neg)
  | _, _ => none
/-- one sign of a text -/
def sgn1 (x : Str) : Option Nat := match x.cps.toList with
  | [c] => some c
  | _ => none
def gIn (neg : Bool) : PV → PV → Option PV
  | .str x, .str z => (sgn1 x).map fun c => .bl (if neg then !decide (c ∈ z.cps.toList) else decide (c ∈ z.cps.toList))
  | p, .lst ps => if SeqAt.shaped p.toD && SeqAt.shaped (PV.lst ps).toD then some (.bl (if neg then !ps.any (fun y => pvEq y p) else ps.any fun y => pvEq y p)) else none
  | _, _ => none
def gIx : PV → PV → Option PV
  | .lst ps, .int i => atI ps i
  | .tup ps, .int i => atI ps i
  | .ktup ps, .int i => atI ps i
  | .klst ps, .int i => atI ps i
  | .str z, .int i => if z.length ≤ sizeLine then (atI z.cps.toList i).map fun c => .str ⟨#[c]⟩ else none
  | _, _ => none
def cutP {α : Type} (xs : List α) (lo hi : Option Int) : List α := (xs.drop (HT.sIx xs.length 0 lo)).take (HT.sIx xs.length xs.length hi - HT.sIx xs.length 0 lo)
def gLen : PV → Option PV
  | .lst ps => some (.int ps.length)
  | .tup ps => some (.int ps.length)
  | .ktup ps => some (.int ps.length)
  | .klst ps => some (.int ps.length)
  | .str z => if z.length ≤ sizeLine then some (.int z.length) else none
  | _ => none
def ints? : List PV → Option (List Int)
  | [] => some []
  | .int i :: r => (ints? r).map (i :: ·)
  | _ :: _ => none
def strs? : List PV → Option (List Str)
  | [] => some []
  | .str i :: r => (strs? r).map (i :: ·)
  | _ :: _ => none
def gSum : PV → Option PV
  | .lst ps => (ints? ps).map fun ns => .int ns.sum
  | _ => none
section
variable {K : PySem.W.Frag}
theorem RepL.ints {S : Hp} : ∀ {ps : List PV} {vs : List V} {ns : List Int}, RepL K S ps vs → ints? ps = some ns → vs = ns.map V.int
  | [], _, _, h, e => by cases h; cases e; rfl
  | p :: ps, _, ns, h, e => by
    cases h with
    | cons h1 h2 =>
      cases p with
      | int i =>
        unfold ints? at e
        cases e1 : ints? ps with
        | none => rw [e1] at e; cases e
        | some ms =>
          rw [e1] at e
          cases e
          cases h1
          rw [RepL.ints h2 e1]
          rfl
      | _ => cases e
theorem RepL.strs {S : Hp} : ∀ {ps : List PV} {vs : List V} {ns : List Str}, RepL K S ps vs → strs? ps = some ns → vs = ns.map V.str
  | [], _, _, h, e => by cases h; cases e; rfl
  | p :: ps, _, ns, h, e => by
    cases h with
    | cons h1 h2 =>
      cases p with
      | str i =>
        unfold strs? at e
        cases e1 : strs? ps with
        | none => rw [e1] at e; cases e
        | some ms =>
          rw [e1] at e
          cases e
          cases h1
          rw [RepL.strs h2 e1]
          rfl
      | _ => cases e
theorem RepL.atI {S : Hp} {ps : List PV} {vs : List V} {i : Int} {p : PV} (h : RepL K S ps vs) (e : L2.atI ps i = some p) : ∃ v, L2.atI vs i = some v ∧ Rep K S p v := by
  unfold L2.atI at e ⊢
  rw [← h.length]
  cases e1 : ixN ps.length i with
  | none => rw [e1] at e; cases e
  | some j =>
    rw [e1] at e
    exact h.get e
theorem RepL.cut {S : Hp} {ps : List PV} {vs : List V} {lo hi : Option Int} (h : RepL K S ps vs) : RepL K S (cutP ps lo hi) (cutV vs lo hi) := by
  unfold cutP cutV
  rw [h.length]
  exact (h.drop _).take _
theorem RepL.flat {S : Hp} {ps : List PV} {vs : List V} (h : RepL K S ps vs) : ∀ n, RepL K S (List.replicate n ps).flatten (List.replicate n vs).flatten
  | 0 => .nil
  | n + 1 => by
    rw [List.replicate_succ, List.replicate_succ, List.flatten_cons, List.flatten_cons]
    exact h.append (RepL.flat h n)
/-! ### .. and the rules by values -/
def rAddU (K : PySem.W.Frag) : R2 := fun x y H Q => (∃ i j, x = .int i ∧ y = .int j ∧ Q (.int (i + j)) H) ∨ (∃ i j, x = .str i ∧ y = .str j ∧ i.length + j.length ≤ sizeLine ∧ Q (.str (i ++ j)) H) ∨ rCat x y H Q ∨ rCatA K x y H Q
theorem op_addU {X : Cx} : OpR X (binaryOp .Add) (rAddU X.K) := OpR.or op_add (OpR.or op_add_str (OpR.or op_cat op_catA))
theorem v2_cat : V2F K rCat gCat := by
  intro S H x y p q z Q s rx ry e k
  unfold gCat at e
  split at e
  · rename_i xs ys
    split at e
    · rename_i hz
      cases e
      cases rx with
      | lst h1 h2 =>
        cases ry with
        | lst h3 h4 =>
          rw [h2.length, h4.length] at hz
          exact ⟨_, _, _, _, rfl, rfl, s _ _ h1, s _ _ h3, hz, fun a n => k a _ n (h2.append h4)⟩
    · cases e
  · cases e
theorem v2_add : V2 K (rAddU K) gAdd := by
  intro S H x y p q z Q s rx ry e k
  unfold gAdd at e
  split at e
  · cases rx; cases ry; cases e
    exact .inl ⟨_, _, rfl, rfl, k _ S H (Step.refl s) (.int _)⟩
  · split at e
    · rename_i hz
      cases rx; cases ry; cases e
      exact .inr (.inl ⟨_, _, rfl, rfl, hz, k _ S H (Step.refl s) (.str _)⟩)
    · cases e
  · exact .inr (.inr (.inl (v2_cat.v2 S H x y _ _ z Q s rx ry e k)))
  · split at e
    · rename_i xs ys hz
      cases e
      refine .inr (.inr (.inr ?_))
      cases rx with
      | tup h1 h2 =>
        cases ry with
        | tup h3 h4 =>
          rename_i a vs b us
          have hz' := hz
          rw [h2.length, h4.length] at hz'
          refine ⟨_, _, _, _, rfl, rfl, .inl (.inl (s _ _ h1)), .inl (.inl (s _ _ h3)), hz', fun e1 => ?_, fun _ e2 => ?_, fun _ _ c n => ?_⟩
          · subst e1
            cases h2
            exact k _ S H (Step.refl s) (.tup h3 h4)
          · subst e2
            cases h4
            rw [List.append_nil] at k
            exact k _ S H (Step.refl s) (.tup h1 h2)
          · refine k _ (upd S c (.tup (vs ++ us))) _ (Step.new1 s n) ?_
            exact .tup upd_same ((h2.append h4).up (same_upd (Same.free s n)))
    · cases e
  · cases e
theorem v2_sub : V2 K (rI0 fun i j => .int (i - j)) gSub := by
  intro S H x y p q z Q s rx ry e k
  unfold gSub at e
  split at e
  · cases rx; cases ry; cases e
    exact ⟨_, _, rfl, rfl, k _ S H (Step.refl s) (.int _)⟩
  · cases e
def rMulU : R2 := fun x y H Q => rI CMul (fun i j => .int (i * j)) x y H Q ∨ rRep x y H Q
theorem op_mulU {X : Cx} : OpR X (binaryOp .Mult) rMulU := OpR.or op_mul op_rep
theorem smallI_iff {i : Int} : smallI i = true ↔ -(2 ^ 64) < i ∧ i < 2 ^ 64 := by unfold smallI; simp
theorem v2_rep : V2F K rRep gRep := by
  intro S H x y p q z Q s rx ry e k
  unfold gRep at e
  split at e
  · rename_i xs n
    split at e
    · rename_i hz
      cases e
      simp only [Bool.and_eq_true, decide_eq_true_eq] at hz
      cases rx with
      | lst h1 h2 =>
        cases ry
        rw [h2.length] at hz
        exact ⟨_, _, _, rfl, rfl, s _ _ h1, hz.1.1, hz.1.2, hz.2, fun a n' => k a _ n' (h2.flat _)⟩
    · cases e
  · cases e
theorem v2_mul : V2 K rMulU gMul := by
  intro S H x y p q z Q s rx ry e k
  unfold gMul at e
  split at e
  · split at e
    · rename_i hz
      cases rx; cases ry; cases e
      refine .inl ⟨_, _, rfl, rfl, ?_, k _ S H (Step.refl s) (.int _)⟩
      rcases (Bool.or_eq_true _ _).mp hz with h | h
      · exact .inl (smallI_iff.mp h)
      · exact .inr (smallI_iff.mp h)
    · cases e
  · rename_i xs n
    exact .inr (v2_rep.v2 S H x y (.lst xs) (.int n) z Q s rx ry e k)
  · cases e
theorem v2_fdiv : V2 K (rI CDiv fun i j => .int (i / j)) gFdiv := by
  intro S H x y p q z Q s rx ry e k
  unfold gFdiv at e
  split at e
  · split at e
    · rename_i hz
      simp only [Bool.and_eq_true, decide_eq_true_eq] at hz
      cases rx; cases ry; cases e
      exact ⟨_, _, rfl, rfl, hz, k _ S H (Step.refl s) (.int _)⟩
    · cases e
  · cases e
theorem v2_mod : V2 K (rI (fun _ j => 0 < j) fun i j => .int (i % j)) gMod := by
  intro S H x y p q z Q s rx ry e k
  unfold gMod at e
  split at e
  · split at e
    · rename_i hz
      cases rx; cases ry; cases e
      exact ⟨_, _, rfl, rfl, of_decide_eq_true hz, k _ S H (Step.refl s) (.int _)⟩
    · cases e
  · cases e
theorem v2_pow : V2 K (rI CPow fun i j => .int (i ^ j.toNat)) gPow := by
  intro S H x y p q z Q s rx ry e k
  unfold gPow at e
  split at e
  · split at e
    · rename_i hz
      simp only [Bool.and_eq_true, decide_eq_true_eq] at hz
      cases rx; cases ry; cases e
      exact ⟨_, _, rfl, rfl, ⟨hz.1.1, hz.1.2, hz.2⟩, k _ S H (Step.refl s) (.int _)⟩
    · cases e
  · cases e
theorem v1_neg : V1 K (rU fun i => .int (-i)) gNeg := by
  intro S H x p z Q s rx e k
  unfold gNeg at e
  split at e
  · cases rx; cases e
    exact ⟨_, rfl, k _ S H (Step.refl s) (.int _)⟩
  · cases e
theorem v2_cmp {f : Int → Int → Bool} : V2 K (rI0 fun i j => .bl (f i j)) (gCmpI f) := by
  intro S H x y p q z Q s rx ry e k
  unfold gCmpI at e
  split at e
  · cases rx; cases ry; cases e
    exact ⟨_, _, rfl, rfl, k _ S H (Step.refl s) (.bl _)⟩
  · cases e
theorem v2_eq : V2 K (rEqD K) gEq := by
  intro S H x y p q z Q s rx ry e k
  unfold gEq at e
  split at e
  · rename_i hz
    cases e
    obtain ⟨h1, h2⟩ := (Bool.and_eq_true _ _).mp hz
    exact ⟨_, _, rx.dp s _ _ (SeqAt.canLay_of_shaped h1), ry.dp s _ _ (SeqAt.canLay_of_shaped h2), h1, h2, k _ S H (Step.refl s) (.bl _)⟩
  · cases e
theorem v2_ne : V2 K (rNeD K) gNe := by
  intro S H x y p q z Q s rx ry e k
  unfold gNe at e
  split at e
  · rename_i hz
    cases e
    obtain ⟨h1, h2⟩ := (Bool.and_eq_true _ _).mp hz
    exact ⟨_, _, rx.dp s _ _ (SeqAt.canLay_of_shaped h1), ry.dp s _ _ (SeqAt.canLay_of_shaped h2), h1, h2, k _ S H (Step.refl s) (.bl _)⟩
  · cases e
theorem rep_non {S : Hp} {p : PV} {x : V} (r : Rep K S p x) : decide (x = .non) = (match p with | .non => true | _ => false) := by
  cases r <;> simp
theorem v2_isN : V2 K (fun x y H Q => y = .non ∧ Q (.bl (decide (x = .non))) H) (gIsN false) := by
  intro S H x y p q z Q s rx ry e k
  have hr := rep_non rx
  cases q with
  | non =>
    cases ry
    refine ⟨rfl, ?_⟩
    rw [hr]
    cases p <;> simp [gIsN] at e <;> subst e <;> exact k _ S H (Step.refl s) (.bl _)
  | _ => cases p <;> simp [gIsN] at e
theorem v2_notN : V2 K (fun x y H Q => y = .non ∧ Q (.bl (!decide (x = .non))) H) (gIsN true) := by
  intro S H x y p q z Q s rx ry e k
  have hr := rep_non rx
  cases q with
  | non =>
    cases ry
    refine ⟨rfl, ?_⟩
    rw [hr]
    cases p <;> simp [gIsN] at e <;> subst e <;> exact k _ S H (Step.refl s) (.bl _)
  | _ => cases p <;> simp [gIsN] at e
theorem sgn1_eq {x : Str} {c : Nat} (h : sgn1 x = some c) : x = ⟨#[c]⟩ := by
  unfold sgn1 at h
  split at h
  · rename_i d e
    cases h
    exact Str.ext' (by rw [← Array.toArray_toList (xs := x.cps), e])
  · cases h
theorem any_toDs (p : PV) : ∀ ps : List PV, (toDs ps).any (fun z => PyData.eqv z p.toD) = ps.any fun y => pvEq y p
  | [] => rfl
  | q :: ps => by
    show (PyData.eqv q.toD p.toD || (toDs ps).any fun z => PyData.eqv z p.toD) = _
    rw [any_toDs p ps]
    rfl
def rInU (K : PySem.W.Frag) : R2 := fun x y H Q => (∃ (c : Nat) (z : Str), x = .str ⟨#[c]⟩ ∧ y = .str z ∧ Q (.bl (decide (c ∈ z.cps.toList))) H) ∨ rInD K x y H Q
def rNotInU (K : PySem.W.Frag) : R2 := fun x y H Q => (∃ (c : Nat) (z : Str), x = .str ⟨#[c]⟩ ∧ y = .str z ∧ Q (.bl (!decide (c ∈ z.cps.toList))) H) ∨ rNotInD K x y H Q
theorem v2_in : V2 K (rInU K) (gIn false) := by
  intro S H x y p q z Q s rx ry e k
  unfold gIn at e
  split at e
  · rename_i a b
    cases hs : sgn1 a with
    | none => rw [hs] at e; cases e
    | some c =>
      rw [hs] at e
      cases e
      cases rx; cases ry
      rw [sgn1_eq hs]
      exact .inl ⟨c, _, rfl, rfl, k _ S H (Step.refl s) (.bl _)⟩
  · rename_i ps _
    split at e
    · rename_i hz
      cases e
      obtain ⟨h1, h2⟩ := (Bool.and_eq_true _ _).mp hz
      refine .inr ⟨_, _, rx.dp s _ _ (SeqAt.canLay_of_shaped h1), ry.dp s _ _ (SeqAt.canLay_of_shaped h2), h1, h2, ?_⟩
      rw [any_toDs]
      exact k _ S H (Step.refl s) (.bl _)
    · cases e
  · cases e
theorem v2_notIn : V2 K (rNotInU K) (gIn true) := by
  intro S H x y p q z Q s rx ry e k
  unfold gIn at e
  split at e
  · rename_i a b
    cases hs : sgn1 a with
    | none => rw [hs] at e; cases e
    | some c =>
      rw [hs] at e
      cases e
      cases rx; cases ry
      rw [sgn1_eq hs]
      exact .inl ⟨c, _, rfl, rfl, k _ S H (Step.refl s) (.bl _)⟩
  · rename_i ps _
    split at e
    · rename_i hz
      cases e
      obtain ⟨h1, h2⟩ := (Bool.and_eq_true _ _).mp hz
      refine .inr ⟨_, _, rx.dp s _ _ (SeqAt.canLay_of_shaped h1), ry.dp s _ _ (SeqAt.canLay_of_shaped h2), h1, h2, ?_⟩
      rw [any_toDs]
      exact k _ S H (Step.refl s) (.bl _)
    · cases e
  · cases e
theorem v2_ix : V2 K (rIx K) gIx := by
  intro S H x y p q z Q s rx ry e k
  unfold gIx at e
  split at e
  · cases ry
    cases rx with
    | lst h1 h2 =>
      obtain ⟨v, h3, h4⟩ := h2.atI e
      exact .inl ⟨_, _, _, _, rfl, rfl, .inl (.inl (s _ _ h1)), h3, k _ S H (Step.refl s) h4⟩
  · cases ry
    cases rx with
    | tup h1 h2 =>
      obtain ⟨v, h3, h4⟩ := h2.atI e
      exact .inr (.inl ⟨_, _, _, _, rfl, rfl, .inl (.inl (s _ _ h1)), h3, k _ S H (Step.refl s) h4⟩)
  · cases ry
    cases rx with
    | ktup h1 h2 =>
      obtain ⟨v, h3, h4⟩ := h2.atI e
      exact .inr (.inl ⟨_, _, _, _, rfl, rfl, Same.tupK s h1, h3, k _ S H (Step.refl s) h4⟩)
  · cases ry
    cases rx with
    | klst h1 h2 =>
      obtain ⟨v, h3, h4⟩ := h2.atI e
      exact .inl ⟨_, _, _, _, rfl, rfl, Same.lstK s h1, h3, k _ S H (Step.refl s) h4⟩
  · cases ry; cases rx
    split at e
    · rename_i z' i hz
      cases h : L2.atI z'.cps.toList i with
      | none => rw [h] at e; cases e
      | some c =>
        rw [h] at e
        cases e
        exact .inr (.inr ⟨_, _, _, rfl, rfl, hz, h, k _ S H (Step.refl s) (.str _)⟩)
    · cases e
  · cases e
theorem vt_truth : VT K (fun x H Q => ∃ k, TruV K x H k ∧ Q k H) truth := by
  intro S H x p z Q s rx e k
  cases p with
  | non => cases rx; cases e; exact ⟨_, rfl, k⟩
  | bl b => cases rx; cases e; exact ⟨_, rfl, k⟩
  | int i => cases rx; cases e; exact ⟨_, rfl, k⟩
  | str y =>
    cases rx
    have e : (if y.length ≤ sizeLine then some ((y.length : Int) != 0) else none) = some z := e
    split at e
    · rename_i hz
      cases e
      exact ⟨_, ⟨hz, rfl⟩, k⟩
    · cases e
  | lst ps =>
    cases rx with
    | lst h1 h2 =>
      cases e
      refine ⟨_, .inl ⟨_, .inl (.inl (s _ _ h1)), ?_⟩, k⟩
      cases h2 <;> rfl
  | tup ps =>
    cases rx with
    | tup h1 h2 =>
      cases e
      refine ⟨_, .inr (.inl ⟨_, .inl (.inl (s _ _ h1)), ?_⟩), k⟩
      cases h2 <;> rfl
  | ktup ps =>
    cases rx with
    | ktup h1 h2 =>
      cases e
      refine ⟨_, .inr (.inl ⟨_, Same.tupK s h1, ?_⟩), k⟩
      cases h2 <;> rfl
  | klst ps =>
    cases rx with
    | klst h1 h2 =>
      cases e
      refine ⟨_, .inl ⟨_, Same.lstK s h1, ?_⟩, k⟩
      cases h2 <;> rfl
  | dic t ks ps => cases e
  | fn a => cases e
/-! ### slices -/
def VS (K : PySem.W.Frag) (r : V → Option Int → Option Int → Hp → VK → Prop) (g : PV → Option Int → Option Int → Option PV) : Prop :=
  ∀ (S H : Hp) (x : V) (p z : PV) (lo hi : Option Int) (Q : VK), Same S H → Rep K S p x → g p lo hi = some z → (∀ v S' H', Step S H S' H' → Rep K S' z v → Q v H') → r x lo hi H Q
def VSF (K : PySem.W.Frag) (r : V → Option Int → Option Int → Hp → VK → Prop) (g : PV → Option Int → Option Int → Option PV) : Prop :=
  ∀ (S H : Hp) (x : V) (p z : PV) (lo hi : Option Int) (Q : VK), Same S H → Rep K S p x → g p lo hi = some z → (∀ a o, H a = none → OwnO K S z o → Q (.ref a) (upd H a o)) → r x lo hi H Q
def gSl : PV → Option Int → Option Int → Option PV
  | .lst ps, lo, hi => some (.lst (cutP ps lo hi))
  | .tup ps, lo, hi => some (.tup (cutP ps lo hi))
  | .str z, lo, hi => if z.length ≤ sizeLine then some (.str (cutS z lo hi)) else none
  | _, _, _ => none
def gSlL : PV → Option Int → Option Int → Option PV
  | .lst ps, lo, hi => some (.lst (cutP ps lo hi))
  | _, _, _ => none
theorem vsf_list : VSF K (rSlL K) gSlL := by
  intro S H x p z lo hi Q s rx e k
  unfold gSlL at e
  split at e
  · cases e
    cases rx with
    | lst h1 h2 => exact ⟨_, _, rfl, .inl (.inl (s _ _ h1)), fun a n => k a _ n h2.cut⟩
  · cases e
def rSlU (K : PySem.W.Frag) : V → Option Int → Option Int → Hp → VK → Prop := fun x lo hi H Q => rSlL K x lo hi H Q ∨ rSlA K x lo hi H Q ∨ rSlS x lo hi H Q
theorem sl_U {X : Cx} : SlR X (rSlU X.K) := sl_list.or (sl_tupA.or sl_str)
theorem cut_all {α : Type} (xs : List α) (lo hi : Option Int) (h : HT.sIx xs.length 0 lo = 0 ∧ HT.sIx xs.length xs.length hi = xs.length) : cutP xs lo hi = xs := by
  unfold cutP
  rw [h.1, h.2]
  simp
theorem vs_U : VS K (rSlU K) gSl := by
  intro S H x p z lo hi Q s rx e k
  unfold gSl at e
  split at e
  · cases e
    cases rx with
    | lst h1 h2 => exact .inl ⟨_, _, rfl, .inl (.inl (s _ _ h1)), fun a n => k _ _ _ (own_new (z := .lst _) (o := .lst _) s n h2.cut).1 (own_new (z := .lst _) (o := .lst _) s n h2.cut).2⟩
  · cases e
    cases rx with
    | tup h1 h2 =>
      rename_i ps a vs
      refine .inr (.inl ⟨_, _, rfl, .inl (.inl (s _ _ h1)), fun hw => ?_, fun hw c n => ?_⟩)
      · rw [← h2.length] at hw
        rw [cut_all ps _ _ hw] at k
        exact k _ S H (Step.refl s) (.tup h1 h2)
      · refine k _ (upd S c (.tup (cutV vs lo hi))) _ (Step.new1 s n) ?_
        exact .tup upd_same (h2.cut.up (same_upd (Same.free s n)))
  · split at e
    · rename_i hz
      cases e
      cases rx
      exact .inr (.inr ⟨_, rfl, hz, k _ S H (Step.refl s) (.str _)⟩)
    · cases e
  · cases e
end
/-! a slice's parts -/
abbrev DenO := Env → Rs (Option Int)
def rO : RelT (Option Int) (Option Int) := fun _ _ _ _ _ a b => b = a
abbrev OOk (K : PySem.W.Frag) (mg : Str → Option Value) (W : WX) (t : TO) (d : DenO) : Prop := XOk K mg W rO t d
def oNone : DenO := fun ρ => .ok none ρ
def PV.int? : PV → Option Int
  | .int i => some i
  | _ => none
def oSome (da : Den) : DenO := fun ρ => (da ρ).bind fun p ρ1 => opt (p.int?.map some) ρ1
def dSl (g : PV → Option Int → Option Int → Option PV) (da : Den) (dl dh : DenO) : Den := fun ρ => (da ρ).bind fun p ρ1 => (dl ρ1).bind fun l ρ2 => (dh ρ2).bind fun h ρ3 => opt (g p l h) ρ3
/-- a slice of a slot that is only looked at: lists and texts -/
def dSlv (g : PV → Option Int → Option Int → Option PV) (i : Nat) (dl dh : DenO) : Den := fun ρ => match slot ρ i with
  | none => .bad
  | some _ => (dl ρ).bind fun l ρ2 => (dh ρ2).bind fun h ρ3 => match slot ρ3 i with
    | none => .bad
    | some p => opt (g p l h) ρ3
section
variable {K : PySem.W.Frag} {mg : Str → Option Value} {W : WX}
theorem oo_none : OOk K mg W tNoPart oNone := fun H₀ S₀ M S σ H ρ Q ab hp => hp none S H ab rfl
theorem oo_some {te : TE} {da : Den} (ha : EOk K mg W te da) : OOk K mg W (tPart te) (oSome da) := fun H₀ S₀ M S σ H ρ Q ab hp =>
  ha.bind (Rl' := rO) ab hp fun p ρ1 v S1 H1 _ a1 _ r1 hp => by
    cases p with
    | int i =>
      cases r1
      exact ⟨i, rfl, hp (some i) S1 H1 a1 rfl⟩
    | _ => exact hp.elim
theorem eo_sl {te : TE} {da : Den} {tl th : TO} {dl dh : DenO} {r : V → Option Int → Option Int → Hp → VK → Prop} {g : PV → Option Int → Option Int → Option PV} (ha : EOk K mg W te da) (hl : OOk K mg W tl dl) (hh : OOk K mg W th dh) (hr : VS K r g) : EOk K mg W (tSl r te tl th) (dSl g da dl dh) := fun H₀ S₀ M S σ H ρ Q ab hp =>
  ha.bind (Rl' := rV K) ab hp fun p ρ1 v S1 H1 _ a1 _ r1 hp => hl.bind (Rl' := rV K) a1 hp fun l ρ2 l' S2 H2 _ a2 s2 r2 hp => hh.bind (Rl' := rV K) a2 hp fun h ρ3 h' S3 H3 _ a3 s3 r3 hp => by
    cases r2; cases r3
    cases e : g p l h with
    | none => rw [e] at hp; exact hp.elim
    | some z =>
      rw [e] at hp
      exact hr S3 H3 v p z l h Q a3.sub (r1.up (s2.trans s3)) e fun v' S4 H4 st rz => hp v' S4 H4 (a3.step st) rz
theorem fo_sl {te : TE} {da : Den} {tl th : TO} {dl dh : DenO} {r : V → Option Int → Option Int → Hp → VK → Prop} {g : PV → Option Int → Option Int → Option PV} (ha : EOk K mg W te da) (hl : OOk K mg W tl dl) (hh : OOk K mg W th dh) (hr : VSF K r g) : FOk K mg W (tSl r te tl th) (dSl g da dl dh) := fun H₀ S₀ M S σ H ρ Q ab hp =>
  ha.bind (Rl' := rF K) ab hp fun p ρ1 v S1 H1 _ a1 _ r1 hp => hl.bind (Rl' := rF K) a1 hp fun l ρ2 l' S2 H2 _ a2 s2 r2 hp => hh.bind (Rl' := rF K) a2 hp fun h ρ3 h' S3 H3 _ a3 s3 r3 hp => by
    cases r2; cases r3
    cases e : g p l h with
    | none => rw [e] at hp; exact hp.elim
    | some z =>
      rw [e] at hp
      exact hr S3 H3 v p z l h Q a3.sub (r1.up (s2.trans s3)) e fun a o n w => hp _ S3 _ (a3.fresh n w).1 (a3.fresh n w).2
/-- the items of an owned list are shared -/
theorem own_lst {S : Hp} {ps : List PV} {o : HO} (w : OwnO K S (.lst ps) o) : ∃ vs, o = .lst vs ∧ RepL K S ps vs := by
  cases o with
  | lst vs => exact ⟨vs, rfl, w⟩
  | _ => exact w.elim
/-- what a slot holds, as a list (or a shared value) -/
theorem Abs.lookL {H₀ S₀ : Hp} {M : Addr → Prop} {S H : Hp} {σ : St} {ρ : Env} {i : Nat} {p : PV} (a : Abs K H₀ S₀ M S σ H ρ) (e : slot ρ i = some p) :
    ∃ v, σ[i]? = some (some v) ∧ (Rep K S p v ∨ ∃ b o, v = .ref b ∧ S b = none ∧ H b = some o ∧ OwnO K S p o) := by
  unfold slot at e
  cases e1 : ρ[i]? with
  | none => rw [e1] at e; cases e
  | some s =>
    rw [e1] at e
    cases s with
    | un => cases e
    | sh q =>
      cases e
      obtain ⟨v, h1, h2⟩ := a.sh i _ e1
      exact ⟨v, h1, .inl h2⟩
    | ow q =>
      cases e
      obtain ⟨b, o, h1, h2, h3, h4, h5, h6⟩ := a.own i _ _ e1 rfl
      exact ⟨_, h1, .inr ⟨b, o, rfl, h4, h5, h6⟩⟩
    | io q =>
      cases e
      obtain ⟨b, o, h1, h2, h3, h4, h5, h6⟩ := a.own i _ _ e1 rfl
      exact ⟨_, h1, .inr ⟨b, o, rfl, h4, h5, h6⟩⟩
/-- an item of a slot that is only looked at -/
theorem eo_ixv {i : Nat} {tb : TE} {db : Den} (hb : EOk K mg W tb db) : EOk K mg W (tOp (rIx K) (tVar i) tb) (d2l gIx i db) := by
  intro H₀ S₀ M S σ H ρ Q ab hp
  unfold d2l at hp
  cases e0 : slot ρ i with
  | none => rw [e0] at hp; exact hp.elim
  | some p0 =>
    rw [e0] at hp
    obtain ⟨v, _, hv, _⟩ := ab.look e0
    refine ⟨v, hv, ?_⟩
    refine hb.bind (Rl' := rV K) ab hp fun q ρ1 u S1 H1 _ a1 _ r1 hp => ?_
    cases e1 : slot ρ1 i with
    | none => rw [e1] at hp; exact hp.elim
    | some p =>
      rw [e1] at hp
      obtain ⟨v', hv', h⟩ := a1.lookL e1
      rw [hv] at hv'
      cases hv'
      cases e : gIx p q with
      | none => simp only [e] at hp; exact hp.elim
      | some z =>
        simp only [e] at hp
        rcases h with h | ⟨b, o, rfl, h2, h3, h4⟩
        · exact v2_ix S1 H1 v u p q z Q a1.sub h r1 e fun v' S3 H3 st rz => hp v' S3 H3 (a1.step st) rz
        · cases p with
          | lst ps =>
            obtain ⟨vs, rfl, h5⟩ := own_lst h4
            cases q with
            | int k =>
              cases r1
              obtain ⟨w, h6, h7⟩ := h5.atI (show L2.atI ps k = some z from e)
              exact .inl ⟨_, _, _, _, rfl, rfl, .inl (.inl h3), h6, hp _ S1 H1 a1 h7⟩
            | _ => cases e
          | dic t ks ps => cases e
          | _ => exact h4.elim
/-- a new list cut out of a slot that is only looked at -/
theorem fo_slv {i : Nat} {tl th : TO} {dl dh : DenO} (hl : OOk K mg W tl dl) (hh : OOk K mg W th dh) : FOk K mg W (tSl (rSlL K) (tVar i) tl th) (dSlv gSlL i dl dh) := by
  intro H₀ S₀ M S σ H ρ Q ab hp
  unfold dSlv at hp
  cases e0 : slot ρ i with
  | none => rw [e0] at hp; exact hp.elim
  | some p0 =>
    rw [e0] at hp
    obtain ⟨v, _, hv, _⟩ := ab.look e0
    refine ⟨v, hv, ?_⟩
    refine hl.bind (Rl' := rF K) ab hp fun l ρ2 l' S2 H2 _ a2 s2 r2 hp => hh.bind (Rl' := rF K) a2 hp fun h ρ3 h' S3 H3 _ a3 s3 r3 hp => ?_
    cases r2; cases r3
    cases e1 : slot ρ3 i with
    | none => rw [e1] at hp; exact hp.elim
    | some p =>
      rw [e1] at hp
      obtain ⟨v', hv', hL⟩ := a3.lookL e1
      rw [hv] at hv'
      cases hv'
      cases p with
      | lst ps =>
        have hp : Post K mg W (rF K) H₀ S₀ M σ (.ok (.lst (cutP ps l h)) ρ3) Q := hp
        rcases hL with hL | ⟨b, o, rfl, h2, h3, h4⟩
        · cases hL with
          | lst h1 h2 => exact ⟨_, _, rfl, .inl (.inl (a3.sub _ _ h1)), fun c n => hp _ S3 _ (a3.fresh n (p := .lst _) (o := .lst _) h2.cut).1 (a3.fresh n (p := .lst _) (o := .lst _) h2.cut).2⟩
        · obtain ⟨vs, rfl, h5⟩ := own_lst h4
          exact ⟨_, _, rfl, .inl (.inl h3), fun c n => hp _ S3 _ (a3.fresh n (p := .lst _) (o := .lst _) h5.cut).1 (a3.fresh n (p := .lst _) (o := .lst _) h5.cut).2⟩
      | _ => exact hp.elim
end
/-! ### built-in functions -/
section
variable {K : PySem.W.Frag}
def gLenN : List PV → Option PV
  | [p] => gLen p
  | _ => none
theorem vn_len : VN K (fun xs H Q => ∃ x n, xs = [x] ∧ LenV K x H n ∧ Q (.int n) H) gLenN := by
  intro S H xs ps z Q s rx e k
  unfold gLenN at e
  split at e
  · rename_i p
    cases rx with
    | cons r1 r2 =>
      cases r2
      unfold gLen at e
      split at e
      · cases r1 with
        | lst h1 h2 =>
          cases e
          refine ⟨_, _, rfl, .inl ⟨_, .inl (.inl (s _ _ h1)), rfl⟩, ?_⟩
          rw [← h2.length]
          exact k _ S H (Step.refl s) (.int _)
      · cases r1 with
        | tup h1 h2 =>
          cases e
          refine ⟨_, _, rfl, .inr ⟨_, .inl (.inl (s _ _ h1)), rfl⟩, ?_⟩
          rw [← h2.length]
          exact k _ S H (Step.refl s) (.int _)
      · cases r1 with
        | ktup h1 h2 =>
          cases e
          refine ⟨_, _, rfl, .inr ⟨_, Same.tupK s h1, rfl⟩, ?_⟩
          rw [← h2.length]
          exact k _ S H (Step.refl s) (.int _)
      · cases r1 with
        | klst h1 h2 =>
          cases e
          refine ⟨_, _, rfl, .inl ⟨_, Same.lstK s h1, rfl⟩, ?_⟩
          rw [← h2.length]
          exact k _ S H (Step.refl s) (.int _)
      · split at e
        · rename_i hz
          cases e
          cases r1
          exact ⟨_, _, rfl, ⟨hz, rfl⟩, k _ S H (Step.refl s) (.int _)⟩
        · cases e
      · cases e
  · cases e
theorem len_sc : ∀ p z, gLenN [p] = some z → z.sc = true := by
  intro p z e
  cases p with
  | lst ps => cases e; rfl
  | tup ps => cases e; rfl
  | ktup ps => cases e; rfl
  | klst ps => cases e; rfl
  | str x =>
    have e : (if x.length ≤ sizeLine then some (PV.int x.length) else none) = some z := e
    split at e
    · cases e; rfl
    · cases e
  | _ => cases e
def gAbs : List PV → Option PV
  | [.int i] => some (.int (if i < 0 then -i else i))
  | _ => none
theorem vn_abs : VN K (fun xs H Q => ∃ i, xs = [.int i] ∧ Q (.int (if i < 0 then -i else i)) H) gAbs := by
  intro S H xs ps z Q s rx e k
  unfold gAbs at e
  split at e
  · cases rx with
    | cons r1 r2 =>
      cases r2; cases r1; cases e
      exact ⟨_, rfl, k _ S H (Step.refl s) (.int _)⟩
  · cases e
def gMax2 : List PV → Option PV
  | [.int i, .int j] => some (.int (if j > i then j else i))
  | _ => none
def gMin2 : List PV → Option PV
  | [.int i, .int j] => some (.int (if j < i then j else i))
  | _ => none
theorem vn_max2 : VN K (fun xs H Q => ∃ i j, xs = [.int i, .int j] ∧ Q (.int (if j > i then j else i)) H) gMax2 := by
  intro S H xs ps z Q s rx e k
  unfold gMax2 at e
  split at e
  · cases rx with
    | cons r1 r2 =>
      cases r2 with
      | cons r3 r4 =>
        cases r4; cases r1; cases r3; cases e
        exact ⟨_, _, rfl, k _ S H (Step.refl s) (.int _)⟩
  · cases e
theorem vn_min2 : VN K (fun xs H Q => ∃ i j, xs = [.int i, .int j] ∧ Q (.int (if j < i then j else i)) H) gMin2 := by
  intro S H xs ps z Q s rx e k
  unfold gMin2 at e
  split at e
  · cases rx with
    | cons r1 r2 =>
      cases r2 with
      | cons r3 r4 =>
        cases r4; cases r1; cases r3; cases e
        exact ⟨_, _, rfl, k _ S H (Step.refl s) (.int _)⟩
  · cases e
def gInt : List PV → Option PV
  | [.int i] => some (.int i)
  | [.bl b] => some (.int (if b then 1 else 0))
  | [.str a] => if a.length ≤ 640 then (PySem.intText? a).map .int else none
  | _ => none
def rIntU : List V → Hp → VK → Prop := fun xs H Q => ((∃ i, xs = [.int i] ∧ Q (.int i) H) ∨ ∃ k, xs = [.bl k] ∧ Q (.int (if k then 1 else 0)) H) ∨ ∃ a n, xs = [.str a] ∧ PySem.intText? a = some n ∧ a.length ≤ 640 ∧ Q (.int n) H
theorem CallR.or {X : Cx} {f : Value} {r r' : List V → Hp → VK → Prop} (h : CallR X f r) (h' : CallR X f r') : CallR X f (fun xs H Q => r xs H Q ∨ r' xs H Q) := by
  intro pins s σ H vs us Q I r q
  rcases q with q | q
  · exact h pins s σ H vs us Q I r q
  · exact h' pins s σ H vs us Q I r q
theorem call_intU {X : Cx} : CallR X (.type "int") rIntU := CallR.or call_int1 call_int_str
theorem vn_int : VN K rIntU gInt := by
  intro S H xs ps z Q s rx e k
  unfold gInt at e
  split at e
  · cases rx with
    | cons r1 r2 =>
      cases r2; cases r1; cases e
      exact .inl (.inl ⟨_, rfl, k _ S H (Step.refl s) (.int _)⟩)
  · cases rx with
    | cons r1 r2 =>
      cases r2; cases r1; cases e
      exact .inl (.inr ⟨_, rfl, k _ S H (Step.refl s) (.int _)⟩)
  · cases rx with
    | cons r1 r2 =>
      cases r2; cases r1
      rename_i a
      split at e
      · rename_i hz
        cases h : PySem.intText? a with
        | none => rw [h] at e; cases e
        | some n =>
          rw [h] at e
          cases e
          exact .inr ⟨_, _, rfl, h, hz, k _ S H (Step.refl s) (.int _)⟩
      · cases e
  · cases e
def gSumN : List PV → Option PV
  | [.lst ps] => (ints? ps).map fun ns => .int ns.sum
  | _ => none
theorem vn_sum : VN K (rSum K) gSumN := by
  intro S H xs ps z Q s rx e k
  unfold gSumN at e
  split at e
  · rename_i ps
    cases rx with
    | cons r1 r2 =>
      cases r2
      cases r1 with
      | lst h1 h2 =>
        cases h : ints? ps with
        | none => rw [h] at e; cases e
        | some ns =>
          rw [h] at e
          cases e
          rw [h2.ints h] at h1
          exact ⟨_, _, rfl, .inl (.inl (s _ _ h1)), k _ S H (Step.refl s) (.int _)⟩
  · cases e
/-! ### what changes a list -/
def gAppend : PV → List PV → Option (PV × PV)
  | .lst ps, [p] => if ps.length < sizeLine then some (.lst (ps ++ [p]), .non) else none
  | _, _ => none
theorem mu_append : MutOk K rAppend gAppend := by
  intro S H b o p q z ps vs Q s sb hb w r e k
  unfold gAppend at e
  split at e
  · rename_i xs p1
    split at e
    · rename_i hz
      cases e
      obtain ⟨us, rfl, h5⟩ := own_lst w
      cases r with
      | cons r1 r2 =>
        cases r2
        exact ⟨_, _, _, rfl, rfl, hb, by rw [← h5.length]; exact hz, k _ _ (h5.append (.cons r1 .nil)) .non⟩
    · cases e
  · cases e
def gPop : PV → List PV → Option (PV × PV)
  | .lst ps, [] => (ps[ps.length - 1]?).map fun p => (.lst ps.dropLast, p)
  | _, _ => none
theorem mu_pop : MutOk K rPop gPop := by
  intro S H b o p q z ps vs Q s sb hb w r e k
  unfold gPop at e
  split at e
  · rename_i xs
    cases h : xs[xs.length - 1]? with
    | none => rw [h] at e; cases e
    | some p1 =>
      rw [h] at e
      cases e
      obtain ⟨us, rfl, h5⟩ := own_lst w
      cases r
      obtain ⟨v, h6, h7⟩ := h5.get h
      rw [h5.length] at h6
      exact ⟨_, _, _, rfl, rfl, hb, h6, k _ _ h5.dropLast h7⟩
  · cases e
def gPopAt : PV → List PV → Option (PV × PV)
  | .lst ps, [.int i] => if decide (-(2 ^ 63) ≤ i) && decide (i < 2 ^ 63) then (seqIndex? i ps.length).bind fun j => (ps[j]?).map fun p => (.lst (ps.eraseIdx j), p) else none
  | _, _ => none
theorem mu_popAt : MutOk K rPopAt gPopAt := by
  intro S H b o p q z ps vs Q s sb hb w r e k
  unfold gPopAt at e
  split at e
  · rename_i xs i
    split at e
    · rename_i hz
      simp only [Bool.and_eq_true, decide_eq_true_eq] at hz
      cases hj : seqIndex? i xs.length with
      | none => rw [hj] at e; cases e
      | some j =>
        rw [hj] at e
        have e : (xs[j]?).map (fun p => (PV.lst (xs.eraseIdx j), p)) = some (q, z) := e
        cases h : xs[j]? with
        | none => rw [h] at e; cases e
        | some p1 =>
          rw [h] at e
          cases e
          obtain ⟨us, rfl, h5⟩ := own_lst w
          cases r with
          | cons r1 r2 =>
            cases r2; cases r1
            obtain ⟨v, h6, h7⟩ := h5.get h
            rw [h5.length] at hj
            exact ⟨_, _, _, _, _, rfl, rfl, hb, hz.1, hz.2, hj, h6, k _ _ (h5.eraseIdx j) h7⟩
    · cases e
  · cases e
def gReverse : PV → List PV → Option (PV × PV)
  | .lst ps, [] => some (.lst ps.reverse, .non)
  | _, _ => none
theorem mu_reverse : MutOk K rReverse gReverse := by
  intro S H b o p q z ps vs Q s sb hb w r e k
  unfold gReverse at e
  split at e
  · cases e
    obtain ⟨us, rfl, h5⟩ := own_lst w
    cases r
    exact ⟨_, _, rfl, rfl, hb, k _ _ h5.reverse .non⟩
  · cases e
def gExtend : PV → List PV → Option (PV × PV)
  | .lst ps, [.lst qs] => if ps.length + qs.length ≤ sizeLine then some (.lst (ps ++ qs), .non) else none
  | _, _ => none
theorem mu_extend : MutOk K rExtend gExtend := by
  intro S H b o p q z ps vs Q s sb hb w r e k
  unfold gExtend at e
  split at e
  · split at e
    · rename_i hz
      cases e
      obtain ⟨us, rfl, h5⟩ := own_lst w
      cases r with
      | cons r1 r2 =>
        cases r2
        cases r1 with
        | lst h1 h2 =>
          refine ⟨_, _, _, _, rfl, rfl, hb, s _ _ h1, ?_, k _ _ (h5.append h2) .non⟩
          rw [← h5.length, ← h2.length]
          exact hz
    · cases e
  · cases e
def gSetL : PV → PV → PV → Option PV
  | .lst ps, .int i, e => (ixN ps.length i).map fun j => .lst (ps.set j e)
  | _, _, _ => none
theorem st_list : SetOk K rSetL gSetL := by
  intro S H b o p i e q x y Q s sb hb w rx ry e1 k
  cases p with
  | lst ps =>
    cases i with
    | int n =>
      have e1 : (ixN ps.length n).map (fun j => PV.lst (ps.set j e)) = some q := e1
      cases hj : ixN ps.length n with
      | none => rw [hj] at e1; cases e1
      | some j =>
        rw [hj] at e1
        cases e1
        obtain ⟨us, rfl, h5⟩ := own_lst w
        cases rx
        rw [h5.length] at hj
        exact ⟨_, _, _, _, rfl, rfl, hb, hj, k _ (h5.set ry j)⟩
    | _ => cases e1
  | _ => cases i <;> cases e1
end
end PL

set_option Elab.async false
set_option linter.all false
set_option maxRecDepth 100000
set_option maxHeartbeats 4000000
namespace PL
open PySem PySem.Spec L2
set_option autoImplicit false

/-! ### pieces of syntax and what they are worth -/
def canon {α β : Type} (K : PySem.W.Frag) (mg : Str → Option Value) (W : WX) (Rl : RelT α β) (d : Env → Rs α) : St → Hp → (β → Hp → Prop) → Prop := fun σ H Q =>
  ∃ H₀ S₀ M S ρ, Abs K H₀ S₀ M S σ H ρ ∧ Post K mg W Rl H₀ S₀ M σ (d ρ) Q
theorem canon_ok {α β : Type} {K : PySem.W.Frag} {mg : Str → Option Value} {W : WX} {Rl : RelT α β} {d : Env → Rs α} : XOk K mg W Rl (canon K mg W Rl d) d := fun H₀ S₀ M S σ H ρ Q ab hp => ⟨H₀, S₀, M, S, ρ, ab, hp⟩
theorem canon_to {α β : Type} {K : PySem.W.Frag} {mg : Str → Option Value} {W : WX} {Rl : RelT α β} {d : Env → Rs α} {t : St → Hp → (β → Hp → Prop) → Prop} (h : XOk K mg W Rl t d) {σ : St} {H : Hp} {Q : β → Hp → Prop} (q : canon K mg W Rl d σ H Q) : t σ H Q := by
  obtain ⟨H₀, S₀, M, S, ρ, ab, hp⟩ := q
  exact h H₀ S₀ M S σ H ρ Q ab hp
def canonS (K : PySem.W.Frag) (mg : Str → Option Value) (W : WX) (fr : Bool) (d : DenS) : TS := fun D σ H => ∃ H₀ S₀ M S ρ, Abs K H₀ S₀ M S σ H ρ ∧ SPost K mg W fr H₀ S₀ M (d ρ) D
theorem canonS_ok {K : PySem.W.Frag} {mg : Str → Option Value} {W : WX} {fr : Bool} {d : DenS} : SOk K mg W fr (canonS K mg W fr d) d := fun H₀ S₀ M S σ H ρ D ab hp => ⟨H₀, S₀, M, S, ρ, ab, hp⟩
theorem canonS_to {K : PySem.W.Frag} {mg : Str → Option Value} {W : WX} {fr : Bool} {d : DenS} {t : TS} (h : SOk K mg W fr t d) {D : Ends} {σ : St} {H : Hp} (q : canonS K mg W fr d D σ H) : t D σ H := by
  obtain ⟨H₀, S₀, M, S, ρ, ab, hp⟩ := q
  exact h H₀ S₀ M S σ H ρ D ab hp
/-- an expression, shared; a fresh object; a test; and, or; arguments; a part of a slice; what is walked; statements -/
abbrev DE (X : Cx) (W : WX) (e : Expr) (d : Den) : Prop := PE X e (canon X.K X.mg W (rV X.K) d)
abbrev DF (X : Cx) (W : WX) (e : Expr) (d : Den) : Prop := PE X e (canon X.K X.mg W (rF X.K) d)
abbrev DT (X : Cx) (W : WX) (e : Expr) (d : DenB) : Prop := PT X e (canon X.K X.mg W rB d)
abbrev DW (X : Cx) (W : WX) (e : Expr) (d : DenB) : Prop := PW X e (canon X.K X.mg W rB d)
abbrev DA (X : Cx) (W : WX) (es : List Expr) (d : DenL) : Prop := PA X es (canon X.K X.mg W (rL X.K) d)
abbrev DO (X : Cx) (W : WX) (e : Option Expr) (d : DenO) : Prop := PO X e (canon X.K X.mg W rO d)
abbrev DI (X : Cx) (W : WX) (tg e : Expr) (d : DenL) : Prop := PI X tg e (canon X.K X.mg W (rIt X.K) d)
abbrev DTs (X : Cx) (W : WX) (es : List Expr) (d : DenB) : Prop := PTs X es (canon X.K X.mg W rB d)
abbrev DS (X : Cx) (W : WX) (fr : Bool) (st : Stmt) (d : DenS) : Prop := PS X st (canonS X.K X.mg W fr d)
abbrev DSs (X : Cx) (W : WX) (fr : Bool) (st : List Stmt) (d : DenS) : Prop := PSs X st (canonS X.K X.mg W fr d)
section
variable {X : Cx} {W : WX} {fr : Bool}
theorem DE.of {e : Expr} {t : TE} {d : Den} (h : PE X e t) (k : EOk X.K X.mg W t d) : DE X W e d := ⟨fun pins s σ H Q I q => h.run pins s σ H Q I (canon_to k q)⟩
theorem DF.of {e : Expr} {t : TE} {d : Den} (h : PE X e t) (k : FOk X.K X.mg W t d) : DF X W e d := ⟨fun pins s σ H Q I q => h.run pins s σ H Q I (canon_to k q)⟩
theorem DT.of {e : Expr} {t : TT} {d : DenB} (h : PT X e t) (k : TOk X.K X.mg W t d) : DT X W e d := ⟨fun pins s σ H Q I q => h.run pins s σ H Q I (canon_to k q)⟩
theorem DW.of {e : Expr} {t : TT} {d : DenB} (h : PW X e t) (k : TOk X.K X.mg W t d) : DW X W e d := ⟨fun wh pins s σ H Q I q => h.run wh pins s σ H Q I (canon_to k q)⟩
theorem DA.of {es : List Expr} {t : TA} {d : DenL} (h : PA X es t) (k : AOk X.K X.mg W t d) : DA X W es d := ⟨fun pos pins s σ H Q I q => h.run pos pins s σ H Q I (canon_to k q)⟩
theorem DO.of {e : Option Expr} {t : TO} {d : DenO} (h : PO X e t) (k : OOk X.K X.mg W t d) : DO X W e d := ⟨fun pins s σ H Q I q => h.run pins s σ H Q I (canon_to k q)⟩
theorem DI.of {tg e : Expr} {t : TI} {d : DenL} (h : PI X tg e t) (k : IOk X.K X.mg W t d) : DI X W tg e d := ⟨fun pins s σ H R I q => h.run pins s σ H R I (canon_to k q)⟩
theorem DTs.of {es : List Expr} {t : TT} {d : DenB} (h : PTs X es t) (k : TOk X.K X.mg W t d) : DTs X W es d := ⟨fun pins s σ H Q I q => h.run pins s σ H Q I (canon_to k q)⟩
theorem DS.of {st : Stmt} {t : TS} {d : DenS} (h : PS X st t) (k : SOk X.K X.mg W fr t d) : DS X W fr st d := ⟨fun pins s σ H D I q => h.run pins s σ H D I (canonS_to k q)⟩
theorem DSs.of {st : List Stmt} {t : TS} {d : DenS} (h : PSs X st t) (k : SOk X.K X.mg W fr t d) : DSs X W fr st d := ⟨fun pins s σ H D I q => h.run pins s σ H D I (canonS_to k q)⟩
theorem DF.sh {e : Expr} {d : Den} (h : DF X W e d) : DE X W e d := DE.of h canon_ok.shared
end

/-- what a body's context grants -/
structure Ctx (X : Cx) (W : WX) (k : Nat) : Prop where
  calm : X.calm = true
  nd : X.N.Nodup
  room : Room k X.A
  tk : Takes X W
theorem Ctx.blk {X : Cx} {W : WX} {k : Nat} (c : Ctx X W k) {s : Shared} {H : Hp} {scope : Scope} {env : PySem.Env} {fp : List Addr} : Ctx (X.blk s H scope env fp) (fun _ _ _ _ => False) k := ⟨c.calm, c.nd, c.room, takes0⟩
theorem Ctx.hu {X : Cx} {W : WX} {k : Nat} (c : Ctx X W k) : X.A.units + 64 < cLine := c.room.units
theorem Ctx.hu1 {X : Cx} {W : WX} {k : Nat} (c : Ctx X W k) : X.A.units + 65 < cLine := by have := c.room.un; omega

/-- the built-in names are the built-ins -/
structure Bi (mg : Str → Option Value) : Prop where
  len : mg "len" = none
  abs : mg "abs" = none
  max : mg "max" = none
  min : mg "min" = none
  int : mg "int" = none
  sum : mg "sum" = none
  range : mg "range" = none
  list : mg "list" = none
  tuple : mg "tuple" = none
  sorted : mg "sorted" = none
  set : mg "set" = none
  zip : mg "zip" = none
  enumerate : mg "enumerate" = none
  reversed : mg "reversed" = none
  isinstance : mg "isinstance" = none
  str : mg "str" = none
  bool : mg "bool" = none
  dict : mg "dict" = none
  any : mg "any" = none
  all : mg "all" = none

section
variable {X : Cx} {W : WX} {fr : Bool} {k : Nat} {pos p p2 p3 apos cpos np : Pos} {e a b : Expr} {es rest : List Expr} {da db dc : Den} {dt du : DenB} {dl : DenL} {x : Str}
/-! ### expressions -/
theorem de_var (i : Nat) (hN : X.N[i]? = some x := by rfl) (hv : Vis X.env.scope x := by first | exact Or.inl rfl | exact Or.inr (Or.inl rfl) | exact Or.inr (Or.inr rfl)) (hd : (x == ("__debug__" : Str)) = false := by decide)
    (hcd : (x == ("__classdict__" : Str)) = false := by decide) : DE X W (.Name x pos) (dVar i) := DE.of (pe_var hN hv hd hcd) eo_var
theorem de_int {i : Int} {j : Nat} : DE X W (.Constant (.int i) j pos) (dC (.int i)) := DE.of pe_int (eo_c fun _ => .int i)
theorem de_bl {i : Bool} {j : Nat} : DE X W (.Constant (.bool i) j pos) (dC (.bl i)) := DE.of pe_bl (eo_c fun _ => .bl i)
theorem de_non {j : Nat} : DE X W (.Constant .none j pos) (dC .non) := DE.of pe_non (eo_c fun _ => .non)
theorem de_str {i : Str} {j : Nat} : DE X W (.Constant (.str i) j pos) (dC (.str i)) := DE.of pe_str (eo_c fun _ => .str i)
/-- a constant of the module -/
theorem de_glob {v : V} {q : PV} {u : Value} (hm : X.mg x = some u) (r : RelV v u) (h : ∀ S, Rep X.K S q v) (hg : Gl X x := by rfl) (hd : (x == ("__debug__" : Str)) = false := by decide) : DE X W (.Name x pos) (dC q) := DE.of (pe_glob hg hm r hd) (eo_c h)
theorem de_op {op : Operator} {r : R2} {g : PV → PV → Option PV} (ho : OpR X (binaryOp op) r) (hv : V2 X.K r g) (ha : DE X W a da) (hb : DE X W b db) : DE X W (.BinOp a op b pos) (d2 g da db) := DE.of (pe_op ho ha hb) (eo_2 canon_ok canon_ok hv)
theorem df_op {op : Operator} {r : R2} {g : PV → PV → Option PV} (ho : OpR X (binaryOp op) r) (hv : V2F X.K r g) (ha : DE X W a da) (hb : DE X W b db) : DF X W (.BinOp a op b pos) (d2 g da db) := DF.of (pe_op ho ha hb) (fo_2 canon_ok canon_ok hv)
abbrev dAdd := d2 gAdd
abbrev dSub := d2 gSub
abbrev dMul := d2 gMul
abbrev dFdiv := d2 gFdiv
abbrev dMod := d2 gMod
abbrev dPow := d2 gPow
abbrev dNeg := d1 gNeg
theorem de_add (ha : DE X W a da) (hb : DE X W b db) : DE X W (.BinOp a .Add b pos) (dAdd da db) := de_op op_addU v2_add ha hb
theorem de_sub (ha : DE X W a da) (hb : DE X W b db) : DE X W (.BinOp a .Sub b pos) (dSub da db) := de_op op_sub v2_sub ha hb
theorem de_mul (ha : DE X W a da) (hb : DE X W b db) : DE X W (.BinOp a .Mult b pos) (dMul da db) := de_op op_mulU v2_mul ha hb
theorem de_fdiv (ha : DE X W a da) (hb : DE X W b db) : DE X W (.BinOp a .FloorDiv b pos) (dFdiv da db) := de_op op_fdiv v2_fdiv ha hb
theorem de_mod (ha : DE X W a da) (hb : DE X W b db) : DE X W (.BinOp a .Mod b pos) (dMod da db) := de_op op_mod v2_mod ha hb
theorem de_pow (ha : DE X W a da) (hb : DE X W b db) : DE X W (.BinOp a .Pow b pos) (dPow da db) := de_op op_pow v2_pow ha hb
theorem df_cat (ha : DE X W a da) (hb : DE X W b db) : DF X W (.BinOp a .Add b pos) (d2 gCat da db) := df_op op_cat v2_cat ha hb
theorem df_rep (ha : DE X W a da) (hb : DE X W b db) : DF X W (.BinOp a .Mult b pos) (d2 gRep da db) := df_op op_rep v2_rep ha hb
theorem de_neg (ha : DE X W a da) : DE X W (.UnaryOp .USub a pos) (dNeg da) := DE.of (pe_un un_neg ha) (eo_1 canon_ok v1_neg)
/-! comparisons: by the operator's rule; as values and as tests -/
structure CmpR (X : Cx) (op : CmpOp) (r : R2) (g : PV → PV → Option PV) : Prop where
  op : OpR X (compareOp op) r
  v : V2 X.K r g
  sc : ∀ p q z, g p q = some z → z.sc = true
theorem sc_cmp {f : Int → Int → Bool} : ∀ p q z, gCmpI f p q = some z → z.sc = true := by
  intro p q z e
  unfold gCmpI at e
  split at e
  · cases e; rfl
  · cases e
theorem cr_lt : CmpR X .Lt (rI0 fun i j => .bl (decide (i < j))) gLt := ⟨op_lt, v2_cmp, sc_cmp⟩
theorem cr_le : CmpR X .LtE (rI0 fun i j => .bl (decide (i ≤ j))) gLe := ⟨op_le, v2_cmp, sc_cmp⟩
theorem cr_gt : CmpR X .Gt (rI0 fun i j => .bl (decide (j < i))) gGt := ⟨op_gt, v2_cmp, sc_cmp⟩
theorem cr_ge : CmpR X .GtE (rI0 fun i j => .bl (decide (j ≤ i))) gGe := ⟨op_ge, v2_cmp, sc_cmp⟩
theorem cr_eq (c : Ctx X W k) : CmpR X .Eq (rEqD X.K) gEq := ⟨op_eqD c.hu, v2_eq, by
  intro p q z e
  unfold gEq at e
  split at e
  · cases e; rfl
  · cases e⟩
theorem cr_ne (c : Ctx X W k) : CmpR X .NotEq (rNeD X.K) gNe := ⟨op_neD c.hu, v2_ne, by
  intro p q z e
  unfold gNe at e
  split at e
  · cases e; rfl
  · cases e⟩
theorem gIn_sc {neg : Bool} : ∀ p q z, gIn neg p q = some z → z.sc = true := by
  intro p q z e
  unfold gIn at e
  split at e
  · rename_i x y
    cases h : sgn1 x with
    | none => rw [h] at e; cases e
    | some c => rw [h] at e; cases e; rfl
  · split at e
    · cases e; rfl
    · cases e
  · cases e
theorem cr_in (c : Ctx X W k) : CmpR X .In (rInU X.K) (gIn false) := ⟨OpR.or op_in_sign (op_inD c.hu1), v2_in, gIn_sc⟩
theorem cr_notIn (c : Ctx X W k) : CmpR X .NotIn (rNotInU X.K) (gIn true) := ⟨OpR.or op_notIn_sign (op_notInD c.hu1), v2_notIn, gIn_sc⟩
theorem gIsN_sc {neg : Bool} : ∀ p q z, gIsN neg p q = some z → z.sc = true := by
  intro p q z e
  cases q <;> cases p <;> simp [gIsN] at e <;> subst e <;> rfl
theorem cr_is : CmpR X .Is (fun x y H Q => y = .non ∧ Q (.bl (decide (x = .non))) H) (gIsN false) := ⟨op_isN, v2_isN, gIsN_sc⟩
theorem cr_isNot : CmpR X .IsNot (fun x y H Q => y = .non ∧ Q (.bl (!decide (x = .non))) H) (gIsN true) := ⟨op_notN, v2_notN, gIsN_sc⟩
section
variable {op op' : CmpOp} {r r' : R2} {g g' : PV → PV → Option PV}
theorem de_cmp (h : CmpR X op r g) (ha : DE X W a da) (hb : DE X W b db) (hm : behindInMarks op b = false := by rfl) : DE X W (.Compare a [op] [b] pos) (d2 g da db) := DE.of (pe_cmpR h.op ha hb hm) (eo_2 canon_ok canon_ok h.v)
theorem dt_cmp (h : CmpR X op r g) (ha : DE X W a da) (hb : DE X W b db) (hm : behindInMarks op b = false := by rfl) : DT X W (.Compare a [op] [b] pos) (bVal (d2 g da db)) := DT.of (pt_cmpR h.op ha hb hm) (to_val (eo_2 canon_ok canon_ok h.v))
theorem de_cmpl (h : CmpR X op r g) (i : Nat) (ha : PE X (.Name x p) (tVar i)) (hb : DE X W b db) (hm : behindInMarks op b = false := by rfl) : DE X W (.Compare (.Name x p) [op] [b] pos) (d2l g i db) := DE.of (pe_cmpR h.op ha hb hm) (eo_2l canon_ok h.v h.sc)
theorem dt_cmpl (h : CmpR X op r g) (i : Nat) (ha : PE X (.Name x p) (tVar i)) (hb : DE X W b db) (hm : behindInMarks op b = false := by rfl) : DT X W (.Compare (.Name x p) [op] [b] pos) (bVal (d2l g i db)) := DT.of (pt_cmpR h.op ha hb hm) (to_val (eo_2l canon_ok h.v h.sc))
theorem de_cmpr (h : CmpR X op r g) (i : Nat) (ha : DE X W a da) (hb : PE X (.Name x p) (tVar i)) (hm : behindInMarks op (.Name x p) = false := by rfl) : DE X W (.Compare a [op] [.Name x p] pos) (d2r g da i) := DE.of (pe_cmpR h.op ha hb hm) (eo_2r canon_ok h.v h.sc)
theorem dt_cmpr (h : CmpR X op r g) (i : Nat) (ha : DE X W a da) (hb : PE X (.Name x p) (tVar i)) (hm : behindInMarks op (.Name x p) = false := by rfl) : DT X W (.Compare a [op] [.Name x p] pos) (bVal (d2r g da i)) := DT.of (pt_cmpR h.op ha hb hm) (to_val (eo_2r canon_ok h.v h.sc))
/-- a op b op' c -/
def dChain (g g' : PV → PV → Option PV) (da db dc : Den) : Den := fun ρ => (da ρ).bind fun p ρ1 => (db ρ1).bind fun q ρ2 => match g p q with
  | some (.bl true) => (dc ρ2).bind fun r ρ3 => opt (g' q r) ρ3
  | some (.bl false) => .ok (.bl false) ρ2
  | _ => .bad
theorem eo_chain {K : PySem.W.Frag} {mg : Str → Option Value} {ta tb tc : TE} (hv : V2 K r g) (hv' : V2 K r' g') (ha : EOk K mg W ta da) (hb : EOk K mg W tb db) (hc : EOk K mg W tc dc) : EOk K mg W (tChain r r' ta tb tc) (dChain g g' da db dc) := by
  intro H₀ S₀ M S σ H ρ Q ab hp
  refine ha.bind (Rl' := rV K) ab hp fun p ρ1 v S1 H1 _ a1 _ r1 hp => ?_
  refine hb.bind (Rl' := rV K) a1 hp fun q ρ2 u S2 H2 _ a2 s2 r2 hp => ?_
  cases e : g p q with
  | none => simp only [e] at hp; exact hp.elim
  | some z =>
    cases z with
    | bl t =>
      refine hv S2 H2 v u p q _ _ a2.sub (r1.up s2) r2 e fun v' S3 H3 st rz => ?_
      cases rz
      cases t with
      | false =>
        simp only [e] at hp
        refine ⟨false, rfl, ?_⟩
        rw [if_neg Bool.false_ne_true]
        exact hp _ S3 H3 (a2.step st) (.bl false)
      | true =>
        simp only [e] at hp
        refine ⟨true, rfl, ?_⟩
        rw [if_pos rfl]
        refine hc.bind (Rl' := rV K) (a2.step st) hp fun c ρ3 w S4 H4 _ a4 s4 r4 hp => ?_
        cases e2 : g' q c with
        | none => rw [e2] at hp; exact hp.elim
        | some z =>
          rw [e2] at hp
          exact hv' S4 H4 u w q c z Q a4.sub (r2.up (st.s.trans s4)) r4 e2 fun v5 S5 H5 st5 rz => hp v5 S5 H5 (a4.step st5) rz
    | _ => simp only [e] at hp; exact hp.elim
theorem de_chain {c : Expr} (h : CmpR X op r g) (h' : CmpR X op' r' g') (ha : DE X W a da) (hb : DE X W b db) (hc : DE X W c dc) (hm : lastMarks [op, op'] [b, c] = false := by with_unfolding_all rfl) : DE X W (.Compare a [op, op'] [b, c] pos) (dChain g g' da db dc) :=
  DE.of (pe_chain h.op h'.op ha hb hc hm) (eo_chain h.v h'.v canon_ok canon_ok canon_ok)
theorem dt_chain {c : Expr} (h : CmpR X op r g) (h' : CmpR X op' r' g') (ha : DE X W a da) (hb : DE X W b db) (hc : DE X W c dc) (hm : lastMarks [op, op'] [b, c] = false := by with_unfolding_all rfl) : DT X W (.Compare a [op, op'] [b, c] pos) (bVal (dChain g g' da db dc)) :=
  DT.of (pt_chain h.op h'.op ha hb hc hm) (to_val (eo_chain h.v h'.v canon_ok canon_ok canon_ok))
end
/-! truth, and, or, not, if -/
theorem dt_tru (ha : DE X W a da) (he : ∀ whole, isTrue a X.env whole = (do let v ← whole; standAt a.pos; holding [v] (truthy v)) := by intro _; rfl) : DT X W a (bTru da) := DT.of (pt_truth ha he) (to_tru canon_ok vt_truth)
theorem dt_truv (i : Nat) (ha : PE X (.Name x p) (tVar i)) : DT X W (.Name x p) (bTruV i) := DT.of (pt_truth ha fun _ => rfl) (to_truv vt_truth)
theorem dt_w (h : DW X W a dt) : DT X W a dt := h.pt
theorem dw_and1 (h : DT X W a dt) : DW X W (.BoolOp .And [a] pos) dt := pw_and1 h
theorem dw_or1 (h : DT X W a dt) : DW X W (.BoolOp .Or [a] pos) dt := pw_or1 h
theorem dw_and (h : DT X W a dt) (h2 : DW X W (.BoolOp .And (b :: rest) pos) du) : DW X W (.BoolOp .And (a :: b :: rest) pos) (bAnd dt du) := DW.of (pw_and h h2) (to_and canon_ok canon_ok)
theorem dw_or (h : DT X W a dt) (h2 : DW X W (.BoolOp .Or (b :: rest) pos) du) : DW X W (.BoolOp .Or (a :: b :: rest) pos) (bOr dt du) := DW.of (pw_or h h2) (to_or canon_ok canon_ok)
theorem dt_not (h : DT X W a dt) : DT X W (.UnaryOp .Not a pos) (bNot dt) := DT.of (pt_not h) (to_not canon_ok)
/-- by truth, as values -/
def dAndT (da db : Den) : Den := fun ρ => (da ρ).bind fun p ρ1 => match truth p with
  | none => .bad
  | some b => if b = true then db ρ1 else .ok p ρ1
def dOrT (da db : Den) : Den := fun ρ => (da ρ).bind fun p ρ1 => match truth p with
  | none => .bad
  | some b => if b = true then .ok p ρ1 else db ρ1
def dNotT (da : Den) : Den := fun ρ => (da ρ).bind fun p ρ1 => opt ((truth p).map fun b => .bl (!b)) ρ1
theorem de_oneA (h : DE X W a da) : DE X W (.BoolOp .And [a] pos) da := pe_one h
theorem de_oneO (h : DE X W a da) : DE X W (.BoolOp .Or [a] pos) da := pe_one h
theorem de_and (h : DE X W a da) (h2 : DE X W (.BoolOp .And (b :: rest) pos) db) : DE X W (.BoolOp .And (a :: b :: rest) pos) (dAndT da db) := DE.of (pe_andT h h2) fun H₀ S₀ M S σ H ρ Q ab hp =>
  canon_ok.bind (Rl := rV X.K) (Rl' := rV X.K) ab hp fun p ρ1 v S1 H1 _ a1 _ r1 hp => by
    cases e : truth p with
    | none => simp only [e] at hp; exact hp.elim
    | some t =>
      simp only [e] at hp
      obtain ⟨z, h3, h4⟩ := vt_truth S1 H1 v p t (fun b' H' => b' = t ∧ H' = H1) a1.sub r1 e ⟨rfl, rfl⟩
      obtain ⟨h4, _⟩ := h4
      subst h4
      refine ⟨z, h3, ?_⟩
      cases z with
      | true => exact ⟨H₀, S₀, M, S1, ρ1, a1, hp⟩
      | false => exact hp v S1 H1 a1 r1
theorem de_or (h : DE X W a da) (h2 : DE X W (.BoolOp .Or (b :: rest) pos) db) : DE X W (.BoolOp .Or (a :: b :: rest) pos) (dOrT da db) := DE.of (pe_orT h h2) fun H₀ S₀ M S σ H ρ Q ab hp =>
  canon_ok.bind (Rl := rV X.K) (Rl' := rV X.K) ab hp fun p ρ1 v S1 H1 _ a1 _ r1 hp => by
    cases e : truth p with
    | none => simp only [e] at hp; exact hp.elim
    | some t =>
      simp only [e] at hp
      obtain ⟨z, h3, h4⟩ := vt_truth S1 H1 v p t (fun b' H' => b' = t ∧ H' = H1) a1.sub r1 e ⟨rfl, rfl⟩
      obtain ⟨h4, _⟩ := h4
      subst h4
      refine ⟨z, h3, ?_⟩
      cases z with
      | false => exact ⟨H₀, S₀, M, S1, ρ1, a1, hp⟩
      | true => exact hp v S1 H1 a1 r1
theorem de_not (h : DE X W a da) : DE X W (.UnaryOp .Not a pos) (dNotT da) := DE.of (pe_notT h) fun H₀ S₀ M S σ H ρ Q ab hp =>
  canon_ok.bind (Rl := rV X.K) (Rl' := rV X.K) ab hp fun p ρ1 v S1 H1 _ a1 _ r1 hp => by
    cases e : truth p with
    | none => rw [e] at hp; exact hp.elim
    | some t =>
      rw [e] at hp
      obtain ⟨z, h3, h4⟩ := vt_truth S1 H1 v p t (fun b' H' => b' = t ∧ H' = H1) a1.sub r1 e ⟨rfl, rfl⟩
      obtain ⟨h4, _⟩ := h4
      subst h4
      exact ⟨z, h3, hp _ S1 H1 a1 (.bl _)⟩
theorem de_if {c : Expr} (hc : DT X W c dt) (ha : DE X W a da) (hb : DE X W b db) : DE X W (.IfExp c a b pos) (dIf dt da db) := DE.of (pe_ifExp hc ha hb) (eo_if canon_ok canon_ok canon_ok)
/-! arguments, displays -/
theorem da_nil : DA X W [] dNil := DA.of pa_nil ao_nil
theorem da_cons (ha : DE X W e da) (hr : DA X W es dl) (hs : starEach (e :: es) X.env = (false, eval e X.env) :: starEach es X.env := by rfl) : DA X W (e :: es) (dCons da dl) := DA.of (pa_cons ha hr hs) (ao_cons canon_ok canon_ok)
def dLst (dl : DenL) : Den := fun ρ => (dl ρ).bind fun ps ρ1 => if ps.length ≤ sizeLine then .ok (.lst ps) ρ1 else .bad
def dTup (dl : DenL) : Den := fun ρ => (dl ρ).bind fun ps ρ1 => if ps.length ≤ sizeLine then .ok (.tup ps) ρ1 else .bad
theorem df_lst (h : DA X W es dl) : DF X W (.List es pos) (dLst dl) := DF.of (pe_lst h) fun H₀ S₀ M S σ H ρ Q ab hp =>
  canon_ok.bind (Rl' := rF X.K) ab hp fun ps ρ1 vs S1 H1 _ a1 _ r1 hp => by
    split at hp
    · rename_i hz
      have r1 : RepL X.K S1 ps vs := r1
      refine ⟨by rw [← r1.length]; exact hz, fun c n => hp _ S1 _ (a1.fresh n (p := .lst ps) (o := .lst vs) r1).1 (a1.fresh n (p := .lst ps) (o := .lst vs) r1).2⟩
    · exact hp.elim
theorem de_tup {j : Nat} (h : DA X W es dl) : DE X W (.Tuple es j pos) (dTup dl) := DE.of (pe_tup h) fun H₀ S₀ M S σ H ρ Q ab hp =>
  canon_ok.bind (Rl' := rV X.K) ab hp fun ps ρ1 vs S1 H1 _ a1 _ r1 hp => by
    split at hp
    · rename_i hz
      have r1 : RepL X.K S1 ps vs := r1
      refine ⟨by rw [← r1.length]; exact hz, fun c n => hp _ (upd S1 c (.tup vs)) _ (a1.step (Step.new1 a1.sub n)) (.tup upd_same (r1.up (same_upd (Same.free a1.sub n))))⟩
    · exact hp.elim
/-! subscripts and slices -/
theorem de_ix (ha : DE X W a da) (hb : DE X W b db) (hs : PlainIx b := by intro _ _; rfl) : DE X W (.Subscript a b pos) (d2 gIx da db) := DE.of (pe_ix ix_seq ha hb hs) (eo_2 canon_ok canon_ok v2_ix)
theorem de_ixv (i : Nat) (ha : PE X (.Name x p) (tVar i)) (hb : DE X W b db) (hs : PlainIx b := by intro _ _; rfl) : DE X W (.Subscript (.Name x p) b pos) (d2l gIx i db) := DE.of (pe_ix ix_seq ha hb hs) (eo_ixv canon_ok)
theorem do_none : DO X W none oNone := DO.of po_none oo_none
theorem do_some (h : DE X W e da) : DO X W (some e) (oSome da) := DO.of (po_some h) (oo_some canon_ok)
theorem de_sl {lo hi : Option Expr} {dlo dhi : DenO} (ha : DE X W a da) (hl : DO X W lo dlo) (hh : DO X W hi dhi) : DE X W (.Subscript a (.Slice lo hi none p2) pos) (dSl gSl da dlo dhi) := DE.of (pe_slice sl_U ha hl hh) (eo_sl canon_ok canon_ok canon_ok vs_U)
theorem df_sl {lo hi : Option Expr} {dlo dhi : DenO} (ha : DE X W a da) (hl : DO X W lo dlo) (hh : DO X W hi dhi) : DF X W (.Subscript a (.Slice lo hi none p2) pos) (dSl gSlL da dlo dhi) := DF.of (pe_slice sl_list ha hl hh) (fo_sl canon_ok canon_ok canon_ok vsf_list)
theorem df_slv {lo hi : Option Expr} {dlo dhi : DenO} (i : Nat) (ha : PE X (.Name x p) (tVar i)) (hl : DO X W lo dlo) (hh : DO X W hi dhi) : DF X W (.Subscript (.Name x p) (.Slice lo hi none p2) pos) (dSlv gSlL i dlo dhi) := DF.of (pe_slice sl_list ha hl hh) (fo_slv canon_ok canon_ok)
/-! built-in functions -/
theorem de_b {id : String} {r : List V → Hp → VK → Prop} {g : List PV → Option PV} (hc : CallR X (.builtin id) r) (hv : VN X.K r g) (hm : X.mg x = none) (hb : bootBuiltins x = some (.builtin id)) (ha : DA X W (e :: es) dl) (hg : Gl X x := by rfl) (hn : x ≠ "__name__" := by decide) (hdb : (x == ("__debug__" : Str)) = false := by decide)
    (he : starEach (e :: es) X.env = (false, eval e X.env) :: starEach es X.env := by rfl) (hpl : (backTo pos (starEach es X.env)).any (·.1) = false := by rfl) : DE X W (.Call (.Name x p) (e :: es) [] pos) (dN g dl) := DE.of (pe_callB hc hg hm hb ha hn hdb he hpl) (eo_n canon_ok hv)
theorem de_bty {T : String} {r : List V → Hp → VK → Prop} {g : List PV → Option PV} (hc : CallR X (.type T) r) (hv : VN X.K r g) (hm : X.mg x = none) (hb : bootBuiltins x = some (.type T)) (ha : DA X W (e :: es) dl) (hg : Gl X x := by rfl) (hn : x ≠ "__name__" := by decide) (hdb : (x == ("__debug__" : Str)) = false := by decide)
    (he : starEach (e :: es) X.env = (false, eval e X.env) :: starEach es X.env := by rfl) (hpl : (backTo pos (starEach es X.env)).any (·.1) = false := by rfl) : DE X W (.Call (.Name x p) (e :: es) [] pos) (dN g dl) := DE.of (pe_callTy hc hg hm hb ha hn hdb he hpl) (eo_n canon_ok hv)
theorem de_lenv (B : Bi X.mg) (i : Nat) (ha : PE X (.Name x p2) (tVar i)) (hg : Gl X "len" := by rfl) (he : starEach [.Name x p2] X.env = (false, eval (.Name x p2) X.env) :: starEach [] X.env := by rfl) (hs : starEach ([] : List Expr) X.env = [] := by rfl) (hpl : (backTo pos (starEach [] X.env)).any (·.1) = false := by rfl) :
    DE X W (.Call (.Name "len" p) [.Name x p2] [] pos) (d1v gLen i) := DE.of (pe_callB call_len hg B.len PySem.boot_len (pa_cons ha pa_nil he) (by decide) (by decide) he hpl) (eo_nv vn_len len_sc)
theorem de_len (B : Bi X.mg) (ha : DA X W (e :: es) dl) (hg : Gl X "len" := by rfl) (he : starEach (e :: es) X.env = (false, eval e X.env) :: starEach es X.env := by rfl) (hpl : (backTo pos (starEach es X.env)).any (·.1) = false := by rfl) :
    DE X W (.Call (.Name "len" p) (e :: es) [] pos) (dN gLenN dl) := de_b call_len vn_len B.len PySem.boot_len ha hg (by decide) (by decide) he hpl
theorem de_abs (B : Bi X.mg) (ha : DA X W (e :: es) dl) (hg : Gl X "abs" := by rfl) (he : starEach (e :: es) X.env = (false, eval e X.env) :: starEach es X.env := by rfl) (hpl : (backTo pos (starEach es X.env)).any (·.1) = false := by rfl) :
    DE X W (.Call (.Name "abs" p) (e :: es) [] pos) (dN gAbs dl) := de_b call_abs vn_abs B.abs (by decide +kernel) ha hg (by decide) (by decide) he hpl
theorem de_max2 (c : Ctx X W k) (B : Bi X.mg) (ha : DA X W (e :: es) dl) (hg : Gl X "max" := by rfl) (he : starEach (e :: es) X.env = (false, eval e X.env) :: starEach es X.env := by rfl) (hpl : (backTo pos (starEach es X.env)).any (·.1) = false := by rfl) :
    DE X W (.Call (.Name "max" p) (e :: es) [] pos) (dN gMax2 dl) := de_b (call_max2 c.calm) vn_max2 B.max (by decide +kernel) ha hg (by decide) (by decide) he hpl
theorem de_min2 (c : Ctx X W k) (B : Bi X.mg) (ha : DA X W (e :: es) dl) (hg : Gl X "min" := by rfl) (he : starEach (e :: es) X.env = (false, eval e X.env) :: starEach es X.env := by rfl) (hpl : (backTo pos (starEach es X.env)).any (·.1) = false := by rfl) :
    DE X W (.Call (.Name "min" p) (e :: es) [] pos) (dN gMin2 dl) := de_b (call_min2 c.calm) vn_min2 B.min (by decide +kernel) ha hg (by decide) (by decide) he hpl
theorem de_sum (c : Ctx X W k) (B : Bi X.mg) (ha : DA X W (e :: es) dl) (hg : Gl X "sum" := by rfl) (he : starEach (e :: es) X.env = (false, eval e X.env) :: starEach es X.env := by rfl) (hpl : (backTo pos (starEach es X.env)).any (·.1) = false := by rfl) :
    DE X W (.Call (.Name "sum" p) (e :: es) [] pos) (dN gSumN dl) := de_b (cr_sum c.calm) vn_sum B.sum (by decide +kernel) ha hg (by decide) (by decide) he hpl
theorem de_toint (B : Bi X.mg) (ha : DA X W (e :: es) dl) (hg : Gl X "int" := by rfl) (he : starEach (e :: es) X.env = (false, eval e X.env) :: starEach es X.env := by rfl) (hpl : (backTo pos (starEach es X.env)).any (·.1) = false := by rfl) :
    DE X W (.Call (.Name "int" p) (e :: es) [] pos) (dN gInt dl) := de_bty call_intU vn_int B.int (by decide +kernel) ha hg (by decide) (by decide) he hpl
/-! what changes a list -/
theorem de_append (i : Nat) (ho : PE X (.Name x np) (tVar i)) (ha : DA X W (e :: es) dl) (hbase : attributeBase (.Name x np) "append" X.env (eval (.Name x np) X.env) = eval (.Name x np) X.env := by rfl)
    (hfew : ((backTo cpos (starEach (e :: es) X.env)).all (fun x => !x.1) && (backToKw cpos (keywordEach [] X.env)).all (fun x => x.1.isSome) && decide ((e :: es).length + ([] : List Keyword).length + (if ([] : List Keyword).isEmpty then 0 else 1) < 30)) = true := by rfl)
    (hline : (apos.endLine == cpos.line) = true := by rfl) (hs : starEach (e :: es) X.env = (false, eval e X.env) :: starEach es X.env := by rfl) (hplain : (backTo cpos (starEach es X.env)).any (·.1) = false := by rfl) :
    DE X W (.Call (.Attribute (.Name x np) "append" apos) (e :: es) [] cpos) (dMut "list" gAppend i dl) :=
  DE.of (pe_bm PySem.F.plainAttrs_list PySem.F.slot_list_append PySem.F.type_list_append mt_append ho ha hbase hfew hline hs hplain) (eo_mut canon_ok mu_append)
theorem de_extend (i : Nat) (ho : PE X (.Name x np) (tVar i)) (ha : DA X W (e :: es) dl) (hbase : attributeBase (.Name x np) "extend" X.env (eval (.Name x np) X.env) = eval (.Name x np) X.env := by rfl)
    (hfew : ((backTo cpos (starEach (e :: es) X.env)).all (fun x => !x.1) && (backToKw cpos (keywordEach [] X.env)).all (fun x => x.1.isSome) && decide ((e :: es).length + ([] : List Keyword).length + (if ([] : List Keyword).isEmpty then 0 else 1) < 30)) = true := by rfl)
    (hline : (apos.endLine == cpos.line) = true := by rfl) (hs : starEach (e :: es) X.env = (false, eval e X.env) :: starEach es X.env := by rfl) (hplain : (backTo cpos (starEach es X.env)).any (·.1) = false := by rfl) :
    DE X W (.Call (.Attribute (.Name x np) "extend" apos) (e :: es) [] cpos) (dMut "list" gExtend i dl) :=
  DE.of (pe_bm PySem.F.plainAttrs_list PySem.F.slot_list_extend PySem.F.type_list_extend mt_extend ho ha hbase hfew hline hs hplain) (eo_mut canon_ok mu_extend)
theorem de_popAt (i : Nat) (ho : PE X (.Name x np) (tVar i)) (ha : DA X W (e :: es) dl) (hbase : attributeBase (.Name x np) "pop" X.env (eval (.Name x np) X.env) = eval (.Name x np) X.env := by rfl)
    (hfew : ((backTo cpos (starEach (e :: es) X.env)).all (fun x => !x.1) && (backToKw cpos (keywordEach [] X.env)).all (fun x => x.1.isSome) && decide ((e :: es).length + ([] : List Keyword).length + (if ([] : List Keyword).isEmpty then 0 else 1) < 30)) = true := by rfl)
    (hline : (apos.endLine == cpos.line) = true := by rfl) (hs : starEach (e :: es) X.env = (false, eval e X.env) :: starEach es X.env := by rfl) (hplain : (backTo cpos (starEach es X.env)).any (·.1) = false := by rfl) :
    DE X W (.Call (.Attribute (.Name x np) "pop" apos) (e :: es) [] cpos) (dMut "list" gPopAt i dl) :=
  DE.of (pe_bm PySem.F.plainAttrs_list PySem.F.slot_list_pop PySem.F.type_list_pop mt_popAt ho ha hbase hfew hline hs hplain) (eo_mut canon_ok mu_popAt)
theorem de_pop (i : Nat) (ho : PE X (.Name x np) (tVar i)) (hbase : attributeBase (.Name x np) "pop" X.env (eval (.Name x np) X.env) = eval (.Name x np) X.env := by rfl) (hline : (apos.endLine == cpos.line) = true := by rfl) :
    DE X W (.Call (.Attribute (.Name x np) "pop" apos) [] [] cpos) (dMut0 "list" gPop i) :=
  DE.of (pe_bm0 PySem.F.plainAttrs_list PySem.F.slot_list_pop PySem.F.type_list_pop mt_pop ho hbase hline) (eo_mut0 mu_pop)
theorem de_reverse (i : Nat) (ho : PE X (.Name x np) (tVar i)) (hbase : attributeBase (.Name x np) "reverse" X.env (eval (.Name x np) X.env) = eval (.Name x np) X.env := by rfl) (hline : (apos.endLine == cpos.line) = true := by rfl) :
    DE X W (.Call (.Attribute (.Name x np) "reverse" apos) [] [] cpos) (dMut0 "list" gReverse i) :=
  DE.of (pe_bm0 PySem.F.plainAttrs_list PySem.F.slot_list_reverse PySem.F.type_list_reverse mt_reverse ho hbase hline) (eo_mut0 mu_reverse)
end

/-! ### defs called by name -/
structure Fd (P : Program) (w : World) (K : PySem.W.Frag) (mg : Str → Option Value) (base : Heap) (x : Str) (k : Nat) (io fr : Bool) (n : Nat) (F : List PV → FR) : Prop where
  ex : ∃ (f : Addr) (fd : FuncData) (ps : List Str), FnOk P w K mg base (L2.CX P w) k f fd ps (spD K mg io fr n F) ∧ mg x = some (.ref f) ∧ PySem.W.keepIn K (.ref f) = true ∧ Binds K fd ps []
  len : ∀ ps, F ps ≠ .bad → ps.length = n
section
variable {X : Cx} {W : WX} {fr : Bool} {j k : Nat} {pos p p2 : Pos} {e : Expr} {es : List Expr} {dl : DenL} {x y : Str} {n : Nat} {F : List PV → FR}
theorem de_call (G : Fd X.prog X.w X.K X.mg X.base x j false false n F) (c : Ctx X W k) (ha : DA X W (e :: es) dl) (hj : j ≤ k := by decide) (hg : Gl X x := by rfl) (hdb : (x == ("__debug__" : Str)) = false := by decide)
    (he : starEach (e :: es) X.env = (false, eval e X.env) :: starEach es X.env := by rfl) (hpl : (backTo pos (starEach es X.env)).any (·.1) = false := by rfl) : DE X W (.Call (.Name x p) (e :: es) [] pos) (dCall F dl) := by
  obtain ⟨f, fd, ps, h1, h2, h3, h4⟩ := G.ex
  exact DE.of (pe_callS h1 (c.room.mono hj) hg h2 h3 h4 (fun σ => passAt c.tk σ) ha hdb he hpl) (eo_call canon_ok G.len)
theorem df_call (G : Fd X.prog X.w X.K X.mg X.base x j false true n F) (c : Ctx X W k) (ha : DA X W (e :: es) dl) (hj : j ≤ k := by decide) (hg : Gl X x := by rfl) (hdb : (x == ("__debug__" : Str)) = false := by decide)
    (he : starEach (e :: es) X.env = (false, eval e X.env) :: starEach es X.env := by rfl) (hpl : (backTo pos (starEach es X.env)).any (·.1) = false := by rfl) : DF X W (.Call (.Name x p) (e :: es) [] pos) (dCall F dl) := by
  obtain ⟨f, fd, ps, h1, h2, h3, h4⟩ := G.ex
  exact DF.of (pe_callS h1 (c.room.mono hj) hg h2 h3 h4 (fun σ => passAt c.tk σ) ha hdb he hpl) (fo_call canon_ok G.len)
theorem de_callIo (G : Fd X.prog X.w X.K X.mg X.base x j true false n F) (c : Ctx X W k) (i : Nat) (ho : PE X (.Name y p2) (tVar i)) (ha : DA X W es dl) (hj : j ≤ k := by decide) (hg : Gl X x := by rfl) (hdb : (x == ("__debug__" : Str)) = false := by decide)
    (he : starEach (.Name y p2 :: es) X.env = (false, eval (.Name y p2) X.env) :: starEach es X.env := by rfl) (hpl : (backTo pos (starEach es X.env)).any (·.1) = false := by rfl) : DE X W (.Call (.Name x p) (.Name y p2 :: es) [] pos) (dCallIo F i dl) := by
  obtain ⟨f, fd, ps, h1, h2, h3, h4⟩ := G.ex
  exact DE.of (pe_callS h1 (c.room.mono hj) hg h2 h3 h4 (fun σ => passAt c.tk σ) (pa_cons ho ha he) hdb he hpl) (eo_callIo canon_ok G.len)
theorem df_callIo (G : Fd X.prog X.w X.K X.mg X.base x j true true n F) (c : Ctx X W k) (i : Nat) (ho : PE X (.Name y p2) (tVar i)) (ha : DA X W es dl) (hj : j ≤ k := by decide) (hg : Gl X x := by rfl) (hdb : (x == ("__debug__" : Str)) = false := by decide)
    (he : starEach (.Name y p2 :: es) X.env = (false, eval (.Name y p2) X.env) :: starEach es X.env := by rfl) (hpl : (backTo pos (starEach es X.env)).any (·.1) = false := by rfl) : DF X W (.Call (.Name x p) (.Name y p2 :: es) [] pos) (dCallIo F i dl) := by
  obtain ⟨f, fd, ps, h1, h2, h3, h4⟩ := G.ex
  exact DF.of (pe_callS h1 (c.room.mono hj) hg h2 h3 h4 (fun σ => passAt c.tk σ) (pa_cons ho ha he) hdb he hpl) (fo_callIo canon_ok G.len)
end
end PL

set_option Elab.async false
set_option linter.all false
set_option maxRecDepth 100000
set_option maxHeartbeats 4000000
namespace PL
open PySem PySem.Spec L2
set_option autoImplicit false

/-! ### what is walked -/
section
variable {K : PySem.W.Frag} {S H : Hp}
theorem itr_list {a : Addr} {vs : List V} {ps : List PV} (s : Same S H) (h : S a = some (.lst vs)) (r : RepL K S ps vs) : ItR K S H ps (Itl K a) := fun i S1 H1 s1 s2 => by
  have hl : SqL K H1 a vs := .inl (.inl (s2 _ _ (s1 _ _ h)))
  refine ⟨fun hi => ⟨vs, hl, by rw [← r.length]; exact hi⟩, fun p e => ?_⟩
  obtain ⟨v, h1, h2⟩ := r.get e
  refine ⟨⟨vs, v, hl, h1⟩, fun x H2 y => ?_⟩
  obtain ⟨e1, y⟩ := y
  subst e1
  have e2 := y vs hl
  rw [h1] at e2
  cases e2
  exact ⟨S1, Step.refl s2, h2.up s1⟩
theorem itr_tup {a : Addr} {vs : List V} {ps : List PV} (s : Same S H) (h : SqT K S a vs) (r : RepL K S ps vs) : ItR K S H ps (Itt K a) := fun i S1 H1 s1 s2 => by
  have hl : SqT K H1 a vs := Same.tupK s2 (Same.tupK s1 h)
  refine ⟨fun hi => ⟨vs, hl, by rw [← r.length]; exact hi⟩, fun p e => ?_⟩
  obtain ⟨v, h1, h2⟩ := r.get e
  refine ⟨⟨vs, v, hl, h1⟩, fun x H2 y => ?_⟩
  obtain ⟨e1, y⟩ := y
  subst e1
  have e2 := y vs hl
  rw [h1] at e2
  cases e2
  exact ⟨S1, Step.refl s2, h2.up s1⟩
def signs (x : Str) : List PV := x.cps.toList.map fun c => .str ⟨#[c]⟩
theorem itr_str {x : Str} : ItR K S H (signs x) (Its x) := fun i S1 H1 s1 s2 => by
  refine ⟨fun hi => ?_, fun p e => ?_⟩
  · have hi : (x.cps.toList.map fun c => (PV.str ⟨#[c]⟩)).length ≤ i := hi
    rw [List.length_map, Array.length_toList] at hi
    exact hi
  · have e : (x.cps.toList.map fun c => (PV.str ⟨#[c]⟩))[i]? = some p := e
    rw [List.getElem?_map] at e
    cases h : x.cps.toList[i]? with
    | none => rw [h] at e; cases e
    | some c =>
      rw [h] at e
      cases e
      have hi : i < x.cps.size := by
        have z := (List.getElem?_eq_some_iff.mp h).1
        rw [Array.length_toList] at z
        exact z
      refine ⟨hi, fun v H2 y => ?_⟩
      obtain ⟨e1, d, h1, h2⟩ := y
      subst e1
      have h3 : x.cps[i]? = some c := by rw [← Array.getElem?_toList]; exact h
      rw [h3] at h1
      cases h1
      subst h2
      exact ⟨S1, Step.refl s2, .str _⟩
def rangeP (lo : Int) (n : Nat) : List PV := (List.range n).map fun (i : Nat) => .int (lo + (i : Int))
theorem itr_range {lo : Int} {n : Nat} : ItR K S H (rangeP lo n) (Itr lo n) := fun i S1 H1 s1 s2 => by
  refine ⟨fun hi => ?_, fun p e => ?_⟩
  · unfold rangeP at hi
    rw [List.length_map, List.length_range] at hi
    exact hi
  · unfold rangeP at e
    rw [List.getElem?_map] at e
    cases h : (List.range n)[i]? with
    | none => rw [h] at e; cases e
    | some c =>
      rw [h] at e
      cases e
      have hi : i < n := by
        have z := (List.getElem?_eq_some_iff.mp h).1
        rwa [List.length_range] at z
      rw [List.getElem?_range hi] at h
      cases h
      refine ⟨hi, fun v H2 y => ?_⟩
      obtain ⟨e1, h2⟩ := y
      subst e1
      subst h2
      exact ⟨S1, Step.refl s2, .int _⟩
def rangeC (lo c : Int) (n : Nat) : List PV := (List.range n).map fun (i : Nat) => .int (lo + (i : Int) * c)
theorem itr_rangeC {lo c : Int} {n : Nat} : ItR K S H (rangeC lo c n) (Itc lo c n) := fun i S1 H1 s1 s2 => by
  refine ⟨fun hi => ?_, fun p e => ?_⟩
  · unfold rangeC at hi
    rw [List.length_map, List.length_range] at hi
    exact hi
  · unfold rangeC at e
    rw [List.getElem?_map] at e
    cases h : (List.range n)[i]? with
    | none => rw [h] at e; cases e
    | some j =>
      rw [h] at e
      cases e
      have hi : i < n := by
        have z := (List.getElem?_eq_some_iff.mp h).1
        rwa [List.length_range] at z
      rw [List.getElem?_range hi] at h
      cases h
      refine ⟨hi, fun v H2 y => ?_⟩
      obtain ⟨e1, h2⟩ := y
      subst e1
      subst h2
      exact ⟨S1, Step.refl s2, .int _⟩
def enumP (i : Int) : List PV → List PV
  | [] => []
  | p :: ps => .tup [.int i, p] :: enumP (i + 1) ps
theorem enumP_get : ∀ (ps : List PV) (i : Int) (n : Nat), (enumP i ps)[n]? = (ps[n]?).map fun p => .tup [.int (i + n), p]
  | [], i, n => by simp [enumP]
  | p :: ps, i, 0 => by simp [enumP]
  | p :: ps, i, n + 1 => by
    simp only [enumP, List.getElem?_cons_succ]
    rw [enumP_get ps (i + 1) n]
    cases ps[n]? with
    | none => rfl
    | some q =>
      show some (PV.tup [.int (i + 1 + n), q]) = some (PV.tup [.int (i + ((n + 1 : Nat) : Int)), q])
      rw [show i + 1 + (n : Int) = i + ((n + 1 : Nat) : Int) by omega]
theorem enumP_length : ∀ (ps : List PV) (i : Int), (enumP i ps).length = ps.length
  | [], _ => rfl
  | p :: ps, i => by simp [enumP, enumP_length ps]
theorem itr_enum {a : Addr} {vs : List V} {ps : List PV} (s : Same S H) (h : S a = some (.lst vs)) (r : RepL K S ps vs) : ItR K S H (enumP 0 ps) (Ite K a) := fun i S1 H1 s1 s2 => by
  have hl : SqL K H1 a vs := .inl (.inl (s2 _ _ (s1 _ _ h)))
  refine ⟨fun hi => ⟨vs, hl, by rw [enumP_length] at hi; rw [← r.length]; exact hi⟩, fun p e => ?_⟩
  rw [enumP_get] at e
  cases e1 : ps[i]? with
  | none => rw [e1] at e; cases e
  | some q =>
    rw [e1] at e
    cases e
    obtain ⟨v, h1, h2⟩ := r.get e1
    refine ⟨⟨vs, v, hl, h1⟩, fun x H2 y => ?_⟩
    obtain ⟨T, x', rfl, hT, rfl, y⟩ := y
    have e2 := y vs hl
    rw [h1] at e2
    cases e2
    refine ⟨upd S1 T (.tup [.int (i : Nat), v]), Step.new1 s2 hT, .tup upd_same ?_⟩
    refine .cons ?_ (.cons ((h2.up s1).up (same_upd (Same.free s2 hT))) .nil)
    rw [Int.zero_add]
    exact .int _
theorem itr_zip {a b : Addr} {vs us : List V} {ps qs : List PV} (s : Same S H) (h : S a = some (.lst vs)) (r : RepL K S ps vs) (h' : S b = some (.lst us)) (r' : RepL K S qs us) : ItR K S H (List.zipWith (fun p q => .tup [p, q]) ps qs) (Itz K a b) := fun i S1 H1 s1 s2 => by
  have hl : SqL K H1 a vs := .inl (.inl (s2 _ _ (s1 _ _ h)))
  have hl' : SqL K H1 b us := .inl (.inl (s2 _ _ (s1 _ _ h')))
  refine ⟨fun hi => ⟨vs, us, hl, hl', ?_⟩, fun p e => ?_⟩
  · rw [List.length_zipWith, r.length, r'.length] at hi
    omega
  · rw [List.getElem?_zipWith] at e
    cases e1 : ps[i]? with
    | none => rw [e1] at e; cases e
    | some q =>
      cases e2 : qs[i]? with
      | none => rw [e1, e2] at e; cases e
      | some q' =>
        rw [e1, e2] at e
        cases e
        obtain ⟨v, h1, h2⟩ := r.get e1
        obtain ⟨u, h3, h4⟩ := r'.get e2
        refine ⟨⟨vs, us, v, u, hl, hl', h1, h3⟩, fun x H2 y => ?_⟩
        obtain ⟨T, x', y', rfl, hT, rfl, y1, y2⟩ := y
        have z1 := y1 vs hl
        rw [h1] at z1
        cases z1
        have z2 := y2 us hl'
        rw [h3] at z2
        cases z2
        exact ⟨upd S1 T (.tup [v, u]), Step.new1 s2 hT, .tup upd_same (.cons ((h2.up s1).up (same_upd (Same.free s2 hT))) (.cons ((h4.up s1).up (same_upd (Same.free s2 hT))) .nil))⟩
theorem itr_rev {a : Addr} {vs : List V} {ps : List PV} (s : Same S H) (h : S a = some (.lst vs)) (r : RepL K S ps vs) : ItR K S H ps.reverse (Itv K a vs.length) := fun i S1 H1 s1 s2 => by
  have hl : SqL K H1 a vs := .inl (.inl (s2 _ _ (s1 _ _ h)))
  refine ⟨fun hi => by rw [List.length_reverse, r.length] at hi; exact hi, fun p e => ?_⟩
  have hi : i < ps.reverse.length := (List.getElem?_eq_some_iff.mp e).1
  rw [List.length_reverse, r.length] at hi
  have e0 : ps[ps.length - 1 - i]? = some p := by
    rw [List.getElem?_reverse (by rw [r.length]; exact hi)] at e
    exact e
  obtain ⟨v, h1, h2⟩ := r.get e0
  rw [r.length] at h1
  refine ⟨⟨hi, vs, v, hl, h1⟩, fun x H2 y => ?_⟩
  obtain ⟨e1, y⟩ := y
  subst e1
  have e2 := y vs hl
  rw [h1] at e2
  cases e2
  exact ⟨S1, Step.refl s2, h2.up s1⟩
end
def seqOf : PV → Option (List PV)
  | .lst ps => some ps
  | .tup ps => some ps
  | .ktup ps => some ps
  | .str x => some (signs x)
  | _ => none
def iSeq (da : Den) : DenL := fun ρ => (da ρ).bind fun p ρ1 => opt (seqOf p) ρ1
def iR1 (dl : DenL) : DenL := fun ρ => (dl ρ).bind fun ps ρ1 => match ps with
  | [.int j] => if decide (-(2 ^ 62) ≤ j) && decide (j < 2 ^ 62) then .ok (rangeP 0 j.toNat) ρ1 else .bad
  | _ => .bad
def iR2 (dl : DenL) : DenL := fun ρ => (dl ρ).bind fun ps ρ1 => match ps with
  | [.int i, .int j] => if (decide (-(2 ^ 62) ≤ i) && decide (i < 2 ^ 62)) && (decide (-(2 ^ 62) ≤ j) && decide (j < 2 ^ 62)) then .ok (rangeP i (j - i).toNat) ρ1 else .bad
  | _ => .bad
def iEnu (dl : DenL) : DenL := fun ρ => (dl ρ).bind fun ps ρ1 => match ps with
  | [.lst qs] => .ok (enumP 0 qs) ρ1
  | _ => .bad
def iZp (dl : DenL) : DenL := fun ρ => (dl ρ).bind fun ps ρ1 => match ps with
  | [.lst qs, .lst rs] => .ok (List.zipWith (fun p q => .tup [p, q]) qs rs) ρ1
  | _ => .bad
def iRv (dl : DenL) : DenL := fun ρ => (dl ρ).bind fun ps ρ1 => match ps with
  | [.lst qs] => .ok qs.reverse ρ1
  | _ => .bad
/-- range(i, j, c) with a written step -/
def rgN (i j c : Int) : Option Nat := if c = 0 then none else if decide (c.natAbs < 1073741824) && Builtin.Range.small i j c then some (Builtin.Range.rangeSize i j c).toNat else none
def iR3 (dl : DenL) : DenL := fun ρ => (dl ρ).bind fun ps ρ1 => match ps with
  | [.int i, .int j, .int c] => if c = 2 ∨ c = -1 then (if decide (-(2 ^ 60) ≤ i) && decide (i < 2 ^ 60) && (decide (-(2 ^ 60) ≤ j) && decide (j < 2 ^ 60)) then .ok (rangeC i c (if c = 2 then ((j - i + 1) / 2).toNat else (i - j).toNat)) ρ1 else .bad) else .bad
  | _ => .bad
section
variable {X : Cx} {W : WX} {fr : Bool} {k : Nat} {pos p p2 tpos : Pos} {e a b c : Expr} {es elts : List Expr} {da : Den} {dl : DenL} {x : Str} {tg : Expr} {kk : Nat}
theorem di_seq (he : DE X W e da) : DI X W tg e (iSeq da) := by
  refine ⟨fun pins s σ H R I h => ?_⟩
  obtain ⟨H₀, S₀, M, S, ρ, ab, hp⟩ := h
  have h1 : canon X.K X.mg W (rV X.K) da σ H fun v H1 => ∃ (S1 : Hp) (ρ1 : Env) (q : PV) (ps : List PV), Abs X.K H₀ S₀ M S1 σ H1 ρ1 ∧ Rep X.K S1 q v ∧ seqOf q = some ps ∧ ∀ J, ItR X.K S1 H1 ps J → R J H1 :=
    XOk.bind (Rl' := rIt X.K) canon_ok ab hp fun q ρ1 v S1 H1 _ a1 _ r1 hp => by
      cases e1 : seqOf q with
      | none => rw [e1] at hp; exact hp.elim
      | some ps =>
        rw [e1] at hp
        exact ⟨S1, ρ1, q, ps, a1, r1, e1, fun J j => hp J S1 H1 a1 j⟩
  refine thn (he.run pins s σ H _ I h1) fun v s1 ⟨y, H1, I1, r1, S1, ρ1, q, ps, a1, rq, e1, hR⟩ => ?_
  cases q with
  | lst qs =>
    cases e1
    cases rq with
    | lst h2 h3 =>
      cases r1
      obtain ⟨its, rv, pl, hz⟩ := I1.list (.inl (.inl (a1.sub _ _ h2)))
      refine PySem.wpAny_pyIter_list pl.isList ?_
      refine ⟨s1.heap.objs.size, [s1.heap.objs.size], _, _, H1, rfl, I1.kept (t' := s1.toks) fun b o e => Heap.get?_push_of_some _ e, turn_list _ _, ⟨_, Heap.get?_push_size _ rfl, rfl, rfl⟩, fun b hb => ?_, hR _ (itr_list a1.sub h2 h3)⟩
      have e : b = s1.heap.objs.size := by simpa using hb
      subst e
      exact I1.fpOk (Nat.le_refl _) (I1.hok.fresh (Nat.le_refl _))
  | tup qs =>
    cases e1
    cases rq with
    | tup h2 h3 =>
      cases r1
      obtain ⟨its, rv, pl, hz⟩ := I1.tuple (.inl (.inl (a1.sub _ _ h2)))
      refine PySem.wpAny_pyIter_tuple (show s1.heap.IsTuple _ its.toArray from pl) ?_
      refine ⟨s1.heap.objs.size, [s1.heap.objs.size], _, _, H1, rfl, I1.kept (t' := s1.toks) fun b o e => Heap.get?_push_of_some _ e, turn_tuple _ _, ⟨_, Heap.get?_push_size _ rfl, rfl, rfl⟩, fun b hb => ?_, hR _ (itr_tup a1.sub (.inl (.inl h2)) h3)⟩
      have e : b = s1.heap.objs.size := by simpa using hb
      subst e
      exact I1.fpOk (Nat.le_refl _) (I1.hok.fresh (Nat.le_refl _))
  | ktup qs =>
    cases e1
    cases rq with
    | ktup h2 h3 =>
      cases r1
      obtain ⟨its, rv, pl, hz⟩ := I1.tuple (Same.tupK a1.sub h2)
      refine PySem.wpAny_pyIter_tuple (show s1.heap.IsTuple _ its.toArray from pl) ?_
      refine ⟨s1.heap.objs.size, [s1.heap.objs.size], _, _, H1, rfl, I1.kept (t' := s1.toks) fun b o e => Heap.get?_push_of_some _ e, turn_tuple _ _, ⟨_, Heap.get?_push_size _ rfl, rfl, rfl⟩, fun b hb => ?_, hR _ (itr_tup a1.sub h2 h3)⟩
      have e : b = s1.heap.objs.size := by simpa using hb
      subst e
      exact I1.fpOk (Nat.le_refl _) (I1.hok.fresh (Nat.le_refl _))
  | str z =>
    cases e1
    cases rq
    obtain ⟨t, rfl⟩ := r1
    cases ha : z.cps.all (· < 128)
    · exact wpAny_pyIter_wide ha (pi_one (tk := s1.toks) I1 _ (turn_str _ z t "str_iterator" (.inr rfl)) ⟨_, Heap.get?_push_size _ rfl, rfl, rfl⟩ (hR _ itr_str))
    · exact wpAny_pyIter_ascii ha (pi_one (tk := s1.toks) I1 _ (turn_str _ z t "str_ascii_iterator" (.inl rfl)) ⟨_, Heap.get?_push_size _ rfl, rfl, rfl⟩ (hR _ itr_str))
  | _ => cases e1
theorem di_r1 (B : Bi X.mg) (ha : DA X W [a] dl) (hg : Gl X "range" := by rfl) (hs : starEach [a] X.env = [(false, eval a X.env)] := by rfl) : DI X W tg (.Call (.Name "range" p) [a] [] pos) (iR1 dl) :=
  DI.of (pi_range1 hg B.range ha hs) fun H₀ S₀ M S σ H ρ Q ab hp => canon_ok.bind (Rl' := rIt X.K) ab hp fun ps ρ1 vs S1 H1 _ a1 _ r1 hp => by
    split at hp
    · split at hp
      · rename_i hz
        simp only [Bool.and_eq_true, decide_eq_true_eq] at hz
        cases r1 with
        | cons r2 r3 =>
          cases r3; cases r2
          exact ⟨_, rfl, hz.1, hz.2, hp _ S1 H1 a1 itr_range⟩
      · exact hp.elim
    · exact hp.elim
theorem di_r2 (B : Bi X.mg) (ha : DA X W [a, b] dl) (hg : Gl X "range" := by rfl) (hs : starEach [a, b] X.env = [(false, eval a X.env), (false, eval b X.env)] := by rfl) (hs2 : starEach [b] X.env = [(false, eval b X.env)] := by rfl) : DI X W tg (.Call (.Name "range" p) [a, b] [] pos) (iR2 dl) :=
  DI.of (pi_range2 hg B.range ha hs hs2) fun H₀ S₀ M S σ H ρ Q ab hp => canon_ok.bind (Rl' := rIt X.K) ab hp fun ps ρ1 vs S1 H1 _ a1 _ r1 hp => by
    split at hp
    · split at hp
      · rename_i hz
        simp only [Bool.and_eq_true, decide_eq_true_eq] at hz
        cases r1 with
        | cons r2 r3 =>
          cases r3 with
          | cons r4 r5 =>
            cases r5; cases r2; cases r4
            exact ⟨_, _, rfl, ⟨hz.1.1, hz.1.2, hz.2.1, hz.2.2⟩, hp _ S1 H1 a1 itr_range⟩
      · exact hp.elim
    · exact hp.elim
theorem di_enum (B : Bi X.mg) (ha : DA X W [e] dl) (hg : Gl X "enumerate" := by rfl) (hs : starEach [e] X.env = [(false, eval e X.env)] := by rfl) : DI X W (.Tuple elts kk tpos) (.Call (.Name "enumerate" p) [e] [] pos) (iEnu dl) :=
  DI.of (pi_enum hg B.enumerate ha hs) fun H₀ S₀ M S σ H ρ Q ab hp => canon_ok.bind (Rl' := rIt X.K) ab hp fun ps ρ1 vs S1 H1 _ a1 _ r1 hp => by
    split at hp
    · cases r1 with
      | cons r2 r3 =>
        cases r3
        cases r2 with
        | lst h1 h2 => exact ⟨_, _, rfl, .inl (.inl (a1.sub _ _ h1)), hp _ S1 H1 a1 (itr_enum a1.sub h1 h2)⟩
    · exact hp.elim
theorem di_zip (B : Bi X.mg) (ha : DA X W [e, a] dl) (hg : Gl X "zip" := by rfl) (hs : starEach [e, a] X.env = (false, eval e X.env) :: starEach [a] X.env := by rfl) (hpl : (backTo pos (starEach [a] X.env)).any (·.1) = false := by rfl) : DI X W (.Tuple elts kk tpos) (.Call (.Name "zip" p) [e, a] [] pos) (iZp dl) :=
  DI.of (pi_zip hg B.zip ha hs hpl) fun H₀ S₀ M S σ H ρ Q ab hp => canon_ok.bind (Rl' := rIt X.K) ab hp fun ps ρ1 vs S1 H1 _ a1 _ r1 hp => by
    split at hp
    · cases r1 with
      | cons r2 r3 =>
        cases r3 with
        | cons r4 r5 =>
          cases r5
          cases r2 with
          | lst h1 h2 =>
            cases r4 with
            | lst h3 h4 => exact ⟨_, _, _, _, rfl, .inl (.inl (a1.sub _ _ h1)), .inl (.inl (a1.sub _ _ h3)), hp _ S1 H1 a1 (itr_zip a1.sub h1 h2 h3 h4)⟩
    · exact hp.elim
theorem di_rev (B : Bi X.mg) (ha : DA X W [e] dl) (hg : Gl X "reversed" := by rfl) (hs : starEach [e] X.env = [(false, eval e X.env)] := by rfl) : DI X W tg (.Call (.Name "reversed" p) [e] [] pos) (iRv dl) :=
  DI.of (pi_reversed hg B.reversed ha hs) fun H₀ S₀ M S σ H ρ Q ab hp => canon_ok.bind (Rl' := rIt X.K) ab hp fun ps ρ1 vs S1 H1 _ a1 _ r1 hp => by
    split at hp
    · cases r1 with
      | cons r2 r3 =>
        cases r3
        cases r2 with
        | lst h1 h2 => exact ⟨_, _, rfl, .inl (.inl (a1.sub _ _ h1)), hp _ S1 H1 a1 (itr_rev a1.sub h1 h2)⟩
    · exact hp.elim

/-! ### targets -/
structure DG (X : Cx) (tg : Expr) (g : TG) (dg : DenG) : Prop where
  pg : PG X tg g
  ok : GOk X.K g dg
  mono : GMono g
structure DGs (X : Cx) (tgs : List Expr) (g : TGs) (dg : List PV → Env → Option Env) (n : Nat) : Prop where
  pg : PGs X tgs g
  ok : GsOk X.K g dg
  mono : GsMono g
  len : ∀ ps ρ ρ', dg ps ρ = some ρ' → ps.length = n
theorem dg_name {W : WX} (c : Ctx X W k) (i : Nat) (hi : X.N[i]? = some x := by rfl) (hx : Loc X.env.scope x := by first | exact Or.inl rfl | exact Or.inr rfl) (hf : X.fn x = true ∨ X.env.scope.names.lookup x = some .local := by first | exact .inl rfl | exact .inr rfl) : DG X (.Name x pos) (L2.gName i) (gName i) :=
  ⟨pg_name c.nd hi hx hf, go_name, gm_name⟩
theorem dgs_nil : DGs X [] L2.gNil gsNil 0 := ⟨pgs_nil, gso_nil, gms_nil, gsNil_len⟩
theorem dgs_cons {g : TG} {dg : DenG} {gs : TGs} {dgs : List PV → Env → Option Env} {n : Nat} (h1 : DG X e g dg) (h2 : DGs X es gs dgs n) (hs : (assignEach (e :: es) X.env).map (·.2) = assign e X.env :: (assignEach es X.env).map (·.2) := by rfl) : DGs X (e :: es) (L2.gCons g gs) (gsCons dg dgs) (n + 1) :=
  ⟨pgs_cons h1.pg h2.pg hs, gso_cons h1.ok h2.ok, gms_cons h1.mono h2.mono, gsCons_len h2.len⟩
theorem dg_tup {W : WX} (c : Ctx X W k) {gs : TGs} {dgs : List PV → Env → Option Env} {n : Nat} (h : DGs X es gs dgs n) (hn : (assignEach es X.env).length = n := by rfl) (hst : (assignEach es X.env).findIdx? (·.1) = none := by rfl) : DG X (.Tuple es kk pos) (L2.gTup X.K n gs) (gTup dgs) :=
  ⟨pg_tup c.calm h.pg hn hst, go_tup h.ok h.len, gm_tup h.mono⟩

/-! ### comprehensions -/
structure LG (K : PySem.W.Frag) (own : List Nat) (g : TG) (dg : DenG) : Prop where
  ok : GOk K g dg
  mono : GMono g
  w : TgW own g
structure LGs (K : PySem.W.Frag) (own : List Nat) (g : TGs) (dg : List PV → Env → Option Env) (n : Nat) : Prop where
  ok : GsOk K g dg
  mono : GsMono g
  len : ∀ ps ρ ρ', dg ps ρ = some ρ' → ps.length = n
  w : TgsW own g
theorem lg_name {K : PySem.W.Frag} {own : List Nat} (i : Nat) (h : i ∈ own := by decide) : LG K own (L2.gName i) (gName i) := ⟨go_name, gm_name, tw_name h⟩
theorem lgs_nil {K : PySem.W.Frag} {own : List Nat} : LGs K own L2.gNil gsNil 0 := ⟨gso_nil, gms_nil, gsNil_len, tws_nil⟩
theorem lgs_cons {K : PySem.W.Frag} {own : List Nat} {gs : TGs} {dgs : List PV → Env → Option Env} {n : Nat} (i : Nat) (h2 : LGs K own gs dgs n) (h : i ∈ own := by decide) : LGs K own (L2.gCons (L2.gName i) gs) (gsCons (gName i) dgs) (n + 1) :=
  ⟨gso_cons go_name h2.ok, gms_cons gm_name h2.mono, gsCons_len h2.len, tws_name h h2.w⟩
theorem lg_tup {K : PySem.W.Frag} {own : List Nat} {gs : TGs} {dgs : List PV → Env → Option Env} {n : Nat} (h : LGs K own gs dgs n) : LG K own (L2.gTup K n gs) (gTup dgs) := ⟨go_tup h.ok h.len, gm_tup h.mono, tw_tup h.w⟩
def bYes : DenB := fun ρ => .ok true ρ
theorem dts_nil : DTs X W [] bYes := DTs.of pts_nil fun H₀ S₀ M S σ H ρ Q ab hp => hp true S H ab rfl
theorem dts_one {dt : DenB} (h : DT X W e dt) : DTs X W [e] dt := DTs.of (pts_one h) canon_ok
theorem df_lc {elt tg iter : Expr} {ifs : List Expr} {scope : Scope} {g : TG} {dg : DenG} {dt : DenB} {de : Den} (own : List (Str × Nat)) (c : Ctx X W k) (hi : DI X W tg iter dl) (hl : LG X.K (own.map (·.2)) g dg)
    (hg : ∀ (s : Shared) (H : Hp) (C : Addr) (cl : List (Str × Addr)) (fp : List Addr), DG (X.blk s H scope (PySem.compEnvC scope cl C X.env) fp) tg g dg) (ht : ∀ (s : Shared) (H : Hp) (C : Addr) (cl : List (Str × Addr)) (fp : List Addr), DTs (X.blk s H scope (PySem.compEnvC scope cl C X.env) fp) (fun _ _ _ _ => False) ifs dt)
    (he : ∀ (s : Shared) (H : Hp) (C : Addr) (cl : List (Str × Addr)) (fp : List Addr), DE (X.blk s H scope (PySem.compEnvC scope cl C X.env) fp) (fun _ _ _ _ => False) elt de) (ok : BlkOk X.N X.env.scope scope own := by exact blkOk_by (by decide +kernel)) (hs : ∀ x, foldedSetIterable iter X.env x = pure x := by intro _; rfl) :
    DF X W (.ListComp elt [⟨tg, iter, ifs, 0⟩] scope pos) (dLc (own.map (·.2)) dl dg dt de) :=
  DF.of (pe_lc c.calm c.nd hi ok (fun s H C cl fp => (hg s H C cl fp).pg) ht he hs) (fo_lc canon_ok hl.ok hl.w hl.mono canon_ok canon_ok)

/-! ### statements -/
variable {st : Stmt} {sts rest s2 : List Stmt} {d1 d2 : DenS} {du : DenB} {db : Den}
theorem dss_nil : DSs X W fr [] sNx := DSs.of pss_nil so_nx
theorem dss_cons (h1 : DS X W fr st d1) (h2 : DSs X W fr rest d2) : DSs X W fr (st :: rest) (sSeq d1 d2) := DSs.of (pss_cons h1 h2) (so_seq canonS_ok canonS_ok)
theorem dss_one (h1 : DS X W fr st d1) : DSs X W fr [st] d1 := pss_one h1
theorem ds_pass : DS X W fr (.Pass pos) sNx := DS.of ps_pass so_nx
theorem ds_brk : DS X W fr (.Break pos) sBk := DS.of ps_break so_bk
theorem ds_cont : DS X W fr (.Continue pos) sCt := DS.of ps_continue so_ct
theorem ds_expr (h : DE X W e da) (hs : swapsWith e none pos.line X.env = pure false := by rfl) : DS X W fr (.Expr e pos) (sExpr da) := DS.of (ps_expr h hs) (so_expr canon_ok)
theorem ds_ret (h : DE X W e da) : DS X W false (.Return (some e) pos) (sRet da) := DS.of (ps_ret h) (so_ret canon_ok)
theorem ds_retF (h : DF X W e da) : DS X W true (.Return (some e) pos) (sRet da) := DS.of (ps_ret h) (so_retF canon_ok)
theorem ds_retO (i : Nat) (h : PE X (.Name x p) (tVar i)) : DS X W true (.Return (some (.Name x p)) pos) (sRetO i) := DS.of (ps_ret h) so_retO
theorem ds_retN : DS X W false (.Return none pos) sRetN := DS.of ps_retN so_retN
theorem ds_if (hc : DT X W e du) (h1 : DSs X W fr sts d1) (h2 : DSs X W fr s2 d2) : DS X W fr (.If e sts s2 pos) (sIf du d1 d2) := DS.of (ps_if hc h1 h2) (so_if canon_ok canonS_ok canonS_ok)
theorem ds_set (c : Ctx X W k) (i : Nat) (h : DE X W e da) (hi : X.N[i]? = some x := by rfl) (hx : Loc X.env.scope x := by first | exact Or.inl rfl | exact Or.inr rfl) (hs : swapsWith e (some (.Name x p)) pos.line X.env = pure false := by rfl) (hf : X.fn x = true ∨ X.env.scope.names.lookup x = some .local := by first | exact .inl rfl | exact .inr rfl) :
    DS X W fr (.Assign [.Name x p] e pos) (sSet i da) := DS.of (ps_set c.nd hi hx h hs hf) (so_set canon_ok)
theorem ds_setF (c : Ctx X W k) (i : Nat) (h : DF X W e da) (hi : X.N[i]? = some x := by rfl) (hx : Loc X.env.scope x := by first | exact Or.inl rfl | exact Or.inr rfl) (hs : swapsWith e (some (.Name x p)) pos.line X.env = pure false := by rfl) (hf : X.fn x = true ∨ X.env.scope.names.lookup x = some .local := by first | exact .inl rfl | exact .inr rfl) :
    DS X W fr (.Assign [.Name x p] e pos) (sSetF i da) := DS.of (ps_set c.nd hi hx h hs hf) (so_setF canon_ok)
/-- y = [..], y a plain local -/
theorem ds_setLcF {elt tg iter : Expr} {ifs : List Expr} {scope : Scope} {g : TG} {dg : DenG} {dt : DenB} {de : Den} (i : Nat) (own : List (Str × Nat)) (c : Ctx X W k) (hi : DI X W tg iter dl) (hl : LG X.K (own.map (·.2)) g dg)
    (hg : ∀ (s : Shared) (H : Hp) (C : Addr) (cl : List (Str × Addr)) (fp : List Addr), DG (X.blk s H scope (PySem.compEnvC scope cl C X.env) fp) tg g dg) (ht : ∀ (s : Shared) (H : Hp) (C : Addr) (cl : List (Str × Addr)) (fp : List Addr), DTs (X.blk s H scope (PySem.compEnvC scope cl C X.env) fp) (fun _ _ _ _ => False) ifs dt)
    (he : ∀ (s : Shared) (H : Hp) (C : Addr) (cl : List (Str × Addr)) (fp : List Addr), DE (X.blk s H scope (PySem.compEnvC scope cl C X.env) fp) (fun _ _ _ _ => False) elt de) (hy : X.N[i]? = some x := by rfl) (hyl : X.env.scope.names.lookup x = some .local := by rfl)
    (hsw : swapsWith (.ListComp elt [⟨tg, iter, ifs, 0⟩] scope p2) (some (.Name x p)) pos.line X.env = pure true := by exact sw_true rfl rfl rfl (by decide +kernel)) (ok : BlkOk X.N X.env.scope scope own := by exact blkOk_by (by decide +kernel)) (hs : ∀ x, foldedSetIterable iter X.env x = pure x := by intro _; rfl) :
    DS X W fr (.Assign [.Name x p] (.ListComp elt [⟨tg, iter, ifs, 0⟩] scope p2) pos) (sSetF i (dLc (own.map (·.2)) dl dg dt de)) :=
  DS.of (ps_setLc c.calm c.nd hy hyl hsw hi ok (fun s H C cl fp => (hg s H C cl fp).pg) ht he hs) (so_setF (fo_lc canon_ok hl.ok hl.w hl.mono canon_ok canon_ok))
theorem ds_setLc {elt tg iter : Expr} {ifs : List Expr} {scope : Scope} {g : TG} {dg : DenG} {dt : DenB} {de : Den} (i : Nat) (own : List (Str × Nat)) (c : Ctx X W k) (hi : DI X W tg iter dl) (hl : LG X.K (own.map (·.2)) g dg)
    (hg : ∀ (s : Shared) (H : Hp) (C : Addr) (cl : List (Str × Addr)) (fp : List Addr), DG (X.blk s H scope (PySem.compEnvC scope cl C X.env) fp) tg g dg) (ht : ∀ (s : Shared) (H : Hp) (C : Addr) (cl : List (Str × Addr)) (fp : List Addr), DTs (X.blk s H scope (PySem.compEnvC scope cl C X.env) fp) (fun _ _ _ _ => False) ifs dt)
    (he : ∀ (s : Shared) (H : Hp) (C : Addr) (cl : List (Str × Addr)) (fp : List Addr), DE (X.blk s H scope (PySem.compEnvC scope cl C X.env) fp) (fun _ _ _ _ => False) elt de) (hy : X.N[i]? = some x := by rfl) (hyl : X.env.scope.names.lookup x = some .local := by rfl)
    (hsw : swapsWith (.ListComp elt [⟨tg, iter, ifs, 0⟩] scope p2) (some (.Name x p)) pos.line X.env = pure true := by exact sw_true rfl rfl rfl (by decide +kernel)) (ok : BlkOk X.N X.env.scope scope own := by exact blkOk_by (by decide +kernel)) (hs : ∀ x, foldedSetIterable iter X.env x = pure x := by intro _; rfl) :
    DS X W fr (.Assign [.Name x p] (.ListComp elt [⟨tg, iter, ifs, 0⟩] scope p2) pos) (sSet i (dLc (own.map (·.2)) dl dg dt de)) :=
  DS.of (ps_setLc c.calm c.nd hy hyl hsw hi ok (fun s H C cl fp => (hg s H C cl fp).pg) ht he hs) (so_set (fo_lc canon_ok hl.ok hl.w hl.mono canon_ok canon_ok).shared)
theorem ds_asg {g : TG} {dg : DenG} (h : DE X W e da) (hg : DG X tg g dg) (hs : swapsWithSole [tg] e pos.line X.env = pure false := by rfl) (hw : swappedStores [tg] e X.env = pure none := by rfl) (h1 : (assignEach [tg] X.env).map (·.2) = [assign tg X.env] := by rfl) :
    DS X W fr (.Assign [tg] e pos) (sAsg da dg) := DS.of (ps_asg h hg.pg hs hw h1) (so_asg canon_ok hg.ok)
/-- x[a] = e, x an owned list in a slot -/
theorem ds_sub (i : Nat) (ho : PE X (.Name x p) (tVar i)) (hi : DE X W a db) (h : DE X W e da)
    (ha : ∀ v, assign (.Subscript (.Name x p) a p2) X.env v = (do
      let ov ← holding [v] (eval (.Name x p) X.env)
      let iv ← holding [v, ov] (eval a X.env)
      standAt p2
      holding [v, ov, iv] (setItem ov iv v)
      release [v, ov, iv] []) := by intro _; rfl) (hs : swapsWithSole [.Subscript (.Name x p) a p2] e pos.line X.env = pure false := by rfl) (hw : swappedStores [.Subscript (.Name x p) a p2] e X.env = pure none := by rfl) (h1 : (assignEach [.Subscript (.Name x p) a p2] X.env).map (·.2) = [assign (.Subscript (.Name x p) a p2) X.env] := by rfl) :
    DS X W fr (.Assign [.Subscript (.Name x p) a p2] e pos) (sSub gSetL i db da) := DS.of (ps_asg h (pg_sub ho hi set_list ha) hs hw h1) (so_sub canon_ok canon_ok st_list)
def gAugAdd : PV → PV → Option PV
  | .int i, .int j => some (.int (i + j))
  | .str x, .str y => if x.length + y.length ≤ sizeLine then some (.str (x ++ y)) else none
  | _, _ => none
def rAugAdd : R2 := fun x y H Q => (∃ i j, x = .int i ∧ y = .int j ∧ Q (.int (i + j)) H) ∨ (∃ i j, x = .str i ∧ y = .str j ∧ i.length + j.length ≤ sizeLine ∧ Q (.str (i ++ j)) H)
theorem v2_augAdd {K : PySem.W.Frag} : V2 K rAugAdd gAugAdd := by
  intro S H x y p q z Q s rx ry e k
  unfold gAugAdd at e
  split at e
  · cases rx; cases ry; cases e
    exact .inl ⟨_, _, rfl, rfl, k _ S H (Step.refl s) (.int _)⟩
  · split at e
    · rename_i hz
      cases rx; cases ry; cases e
      exact .inr ⟨_, _, rfl, rfl, hz, k _ S H (Step.refl s) (.str _)⟩
    · cases e
  · cases e
theorem augAdd_sc : ∀ p q z, gAugAdd p q = some z → z.sc = true := by
  intro p q z e
  unfold gAugAdd at e
  split at e
  · cases e; rfl
  · split at e
    · cases e; rfl
    · cases e
  · cases e
theorem gSub_sc : ∀ p q z, gSub p q = some z → z.sc = true := by
  intro p q z e
  unfold gSub at e
  split at e
  · cases e; rfl
  · cases e
theorem pip_or {op : Operator} {r r' : TIp} (h : PIp X op r) (h' : PIp X op r') : PIp X op (fun x y H Q => r x y H Q ∨ r' x y H Q) := by
  intro pins s σ H x y v u Q I rx ry q
  rcases q with q | q
  · exact h pins s σ H x y v u Q I rx ry q
  · exact h' pins s σ H x y v u Q I rx ry q
theorem pip_add : PIp X .Add rAugAdd := pip_or (fun pins s σ H x y v u Q I rx ry q => iop_add pins s σ H x y v u Q I rx ry q) fun pins s σ H x y v u Q I rx ry q => iop_add_str pins s σ H x y v u Q I rx ry q
theorem ds_augAdd (c : Ctx X W k) (i : Nat) (h : DE X W e da) (hi : X.N[i]? = some x := by rfl) (hx : Loc X.env.scope x := by first | exact Or.inl rfl | exact Or.inr rfl) (hf : X.fn x = true ∨ X.env.scope.names.lookup x = some .local := by first | exact .inl rfl | exact .inr rfl) :
    DS X W fr (.AugAssign (.Name x p) .Add e pos) (sAug i gAugAdd da) := DS.of (ps_aug c.nd hi hx h pip_add hf) (so_aug canon_ok v2_augAdd augAdd_sc)
theorem ds_augSub (c : Ctx X W k) (i : Nat) (h : DE X W e da) (hi : X.N[i]? = some x := by rfl) (hx : Loc X.env.scope x := by first | exact Or.inl rfl | exact Or.inr rfl) (hf : X.fn x = true ∨ X.env.scope.names.lookup x = some .local := by first | exact .inl rfl | exact .inr rfl) :
    DS X W fr (.AugAssign (.Name x p) .Sub e pos) (sAug i gSub da) := DS.of (ps_aug c.nd hi hx h (fun pins s σ H x y v u Q I rx ry q => iop_sub pins s σ H x y v u Q I rx ry q) hf) (so_aug canon_ok v2_sub gSub_sc)
/-- what lets out what is raised -/
abbrev Po (X : Cx) : Prop := PassesOwn (model X.prog X.w) X.A X.env X.xe
theorem ds_for {g : TG} {dg : DenG} (hp : Po X) (c : Ctx X W k) (hi : DI X W tg e dl) (hg : DG X tg g dg) (hb : DSs X W fr sts d1) (hs : ∀ x, foldedSetIterable e X.env x = pure x := by intro _; rfl) : DS X W fr (.For tg e sts [] pos) (sFor dl dg d1) :=
  DS.of (ps_for hp c.calm hi hg.pg hb hs) (so_for canon_ok hg.ok canonS_ok)
theorem ds_while (μ : Env → Nat) (hp : Po X) (hc : DT X W e du) (hb : DSs X W fr sts d1) : DS X W fr (.While e sts [] pos) (sWhile μ du d1) :=
  DS.of (ps_while hp hc hb) (so_while canon_ok canonS_ok)
end
/-- THE RULE for a def, over pieces of syntax -/
theorem fd_ok {P : Program} {w : World} {K : PySem.W.Frag} {mg : Str → Option Value} {base : Heap} {x qual : Str} {st : Stmt} {f : Addr} {fd : FuncData} {N ps : List Str} {k : Nat} {io fr : Bool} {d : DenS} (F : Fun K x qual st f fd) (hm : mg x = some (.ref f)) (S : FnScope N ps (defScope st))
    (hb : Binds K fd ps []) (hl : ps.length ≤ N.length)
    (hbody : ∀ (cdv : Value) (A : Around) (outer : List PySem.Env) (s : Shared) (H : Hp) (E : XK), Ctx (cxOf (L2.CX P w) P w K mg base N qual (defScope st) f cdv A outer s H E) (fun cls dd _ H => E cls dd H) k → Po (cxOf (L2.CX P w) P w K mg base N qual (defScope st) f cdv A outer s H E) →
      DSs (cxOf (L2.CX P w) P w K mg base N qual (defScope st) f cdv A outer s H E) (fun cls dd _ H => E cls dd H) fr (defBody st) d) :
    Fd P w K mg base x (k + 1) io fr ps.length (runD io fr ps.length N.length d) := by
  refine ⟨⟨f, fd, ps, fn_ok F S hl fun cdv A outer s H E hr => ⟨_, hbody cdv A outer s H E ⟨rfl, S.nd, hr, takes_of rfl rfl rfl rfl⟩ (passes_of rfl), canonS_ok⟩, hm, F.kp, hb⟩, fun qs h => ?_⟩
  unfold runD at h
  by_cases e : qs.length = ps.length
  · exact e
  · rw [if_neg e] at h
    exact absurd rfl h
theorem Fd.eq {P : Program} {w : World} {K : PySem.W.Frag} {mg : Str → Option Value} {base : Heap} {x : Str} {k n : Nat} {io fr : Bool} {F G : List PV → FR} (h : Fd P w K mg base x k io fr n F) (e : ∀ ps, G ps ≠ .bad → F ps = G ps) : Fd P w K mg base x k io fr n G := by
  obtain ⟨f, fd, ps, h1, h2, h3, h4⟩ := h.ex
  exact ⟨⟨f, fd, ps, fn_eq h1 e, h2, h3, h4⟩, fun qs hq => h.len qs (by rw [e qs hq]; exact hq)⟩
end PL

set_option Elab.async false
set_option linter.all false
set_option maxRecDepth 100000
set_option maxHeartbeats 4000000
namespace PL
open PySem PySem.Spec L2
open PyProof.Rows hiding St
set_option autoImplicit false

/-! ### try with several clauses 'except x as n' that share the name n -/
/-- what stands behind a clause: the name's slot is empty -/
def gone (i : Nat) (D : Ends) : Ends := ⟨fun τ G => D.nx (τ.set i none) G, D.rt, fun τ G => D.bk (τ.set i none) G, fun τ G => D.ct (τ.set i none) G⟩
/-- a clause: its class, what its suite is worth -/
abbrev Clause := Value × (Addr → Value → Option Addr → TS)
def wCl (K : PySem.W.Frag) (out : WX) (D : Ends) (i : Nat) : List Clause → WX
  | [] => out
  | (c, ts) :: more => fun cls d τ G => ∃ hit, PySem.W.exmOne K cls c = some hit ∧
      (hit = true → ∀ a, G a = none → ts a cls d (gone i D) (τ.set i (some (.ref a))) G) ∧ (hit = false → wCl K out D i more cls d τ G)
inductive Clauses (X : Cx) (n : Str) : List ExceptHandler → List Clause → Prop
  | nil : Clauses X n [] []
  | cons {y : Str} {c : Value} {ts : Addr → Value → Option Addr → TS} {b : Stmt} {bs : List Stmt} {q q' : Pos} {hs : List ExceptHandler} {cl : List Clause} : Names X y c →
      (∀ (a : Addr) (ob : Obj) (cls : Value) (d : Option Addr) (pn : List (Addr × Obj)), Zc cls d ob → (∃ vs, ob.data = .fields vs) → PSs (X.suite a ((a, ob) :: pn)) (b :: bs) (ts a cls d)) →
      Clauses X n hs cl → Clauses X n (.ExceptHandler (some (.Name y q)) (some n) (b :: bs) q' :: hs) ((c, ts) :: cl)
section
variable {X : Cx} {n : Str} {i : Nat} {out : WX} {D : Ends} {pins : List (Addr × Obj)} {a : Addr} {B : Heap} {cls : Value} {d : Option Addr} {τ : L2.St} {G : Hp} {sI s' : Shared}
/-- where a caught exception stands: what its clauses lean on -/
structure Caught (X : Cx) (pins : List (Addr × Obj)) (a : Addr) (B : Heap) (cls : Value) (d : Option Addr) (τ : L2.St) (G : Hp) (sI s' : Shared) : Prop where
  inv : Inv X pins τ G sI
  ground : ∀ b o, sI.heap.get? b = some o → b ∉ frs X.stack → B.get? b = some o
  up : sI.heap.UpToSlots s'.heap
  na : G a = none
  os : s'.os = sI.os
  bare : AllBare s'.gens
theorem Caught.suite (k : Caught X pins a B cls d τ G sI s') (hstk : X.stack = X.env :: X.outer) (hfr : X.env.frame = some X.env.locals) {g : Heap} (fly : HandSPX.FlyingZ B (X.env :: X.outer) a (Zc cls d) g) (u : s'.heap.UpToSlots g) :
    ∃ ob, g.get? a = some ob ∧ Zc cls d ob ∧ (∃ vs, ob.data = .fields vs) ∧ Inv X pins τ G { s' with heap := g } ∧ Inv (X.suite a ((a, ob) :: (X.pn ++ pins))) [] τ G { s' with heap := g } := by
  have J : Inv X pins τ G { s' with heap := g } := k.inv.landed (s' := { s' with heap := g }) k.ground fly.1 (k.up.trans u) k.os k.bare
  obtain ⟨ob, vs, e1, e2, e3⟩ := fly.there
  have far : a ∉ frs (X.env :: X.outer) := fun m => by
    obtain ⟨_, o2, z1, z2⟩ := fly.2.2.1.mem m
    rw [e1] at z1
    cases z1
    exact z2 _ e3
  refine ⟨ob, e1, e2, ⟨vs, e3⟩, J, J.suite e1 e3 k.na (fun z => far ?_) fun m => far ?_⟩
  · exact List.mem_filterMap.mpr ⟨X.env, List.mem_cons_self, by rw [hfr, z]⟩
  · obtain ⟨env, m1, m2⟩ := List.mem_filterMap.mp m
    exact List.mem_filterMap.mpr ⟨env, List.mem_cons_of_mem _ m1, m2⟩
theorem clauses_run (hN : X.N.Nodup) (hi : X.N[i]? = some n) (hln : X.env.kindOf n = some .local) (hstk : X.stack = X.env :: X.outer) (hfr : X.env.frame = some X.env.locals) (tk : Takes X out)
    (k : Caught X pins a B cls d τ G sI s') {g : Heap} (fly : HandSPX.FlyingZ B (X.env :: X.outer) a (Zc cls d) g) (u : s'.heap.UpToSlots g) {hs : List ExceptHandler} {cl : List Clause} (h : Clauses X n hs cl) :
    wCl X.K out D i cl cls d τ G → wpAny (model X.prog X.w) X.A (handleBy (.ref a) X.env hs) (SP X pins D) X.xe { s' with heap := g } := by
  obtain ⟨ob, e1, e2, e3, J, JS⟩ := k.suite hstk hfr fly u
  induction h with
  | nil =>
    intro w
    refine wpAny_handleBy_nil ?_
    obtain ⟨_, _, _, o1, flds, T, _, _, f1, _, f2, f3, _⟩ := id fly
    unfold PySem.passOn
    refine wpAny_bind (PySem.wpAny_field f1 f2 f3 ?_)
    have nn : ¬ ((Value.ref T == Value.none) = true) := by simp
    rw [if_neg nn]
    have again : wpAny (model X.prog X.w) X.A (setFlight (.ref a) X.env.frame) (fun _ s4 => wpAny (model X.prog X.w) X.A (throw (.ref a) : Sem Flow) (SP X pins D) X.xe s4) X.xe { s' with heap := g } := by
      rw [hfr]
      refine HandSPX.setFlight_upZ fly fun g2 held u2 => wpAny_throw (tk _ _ ?_)
      refine ⟨a, B, sI, pins, τ, G, cls, d, rfl, k.inv, k.ground, (k.up.trans u).trans u2, .inr (.inr ?_), k.na, k.os, k.bare, w⟩
      rw [hstk]
      exact held
    first
      | exact wpAny_bind (wpAny_pure (wpAny_bind again))
      | exact wpAny_bind again
  | @cons y c ts b bs q q' more cl' names suite _ ih =>
    rintro ⟨hit, exm, yes, no⟩
    refine wpAny_handleBy_cons (codeAny_handlers_test ?_) (by intro z; cases z)
    have ty : PySem.W.Looks (model X.prog X.w) g (typeOf (.ref a)) cls := fun A Q E s kk qq => PySem.wpAny_typeOf_ref (kk _ _ e1) (by rw [e2.1]; exact qq)
    have look := PySem.W.exm_one (M := model X.prog X.w) J.kIn ty exm
    have named : ∀ {Q : Value → Shared → Prop} {E : Value → Shared → Prop}, Q c { s' with heap := g } → wpAny (model X.prog X.w) (X.A.mark (some (.ref a))) (eval (.Name y q) X.env) Q E { s' with heap := g } := fun {Q E} qq => by
      obtain ⟨g1, g2, g3⟩ := names
      rcases g3 with g3 | ⟨g3, g4, g5⟩
      · exact ld_glob (X := X.suite a ((a, ob) :: (X.pn ++ pins))) JS g1 g3 qq g2
      · exact ld_blt (X := X.suite a ((a, ob) :: (X.pn ++ pins))) JS g1 g3 g4 qq g5 g2
    refine named (look.here ?_)
    cases hit with
    | false => exact ih (no rfl)
    | true =>
      refine codeAny_handlers_suite_as (HandSPX.lands_againZ fly fun g2 fly2 u2 => ?_)
      obtain ⟨ob2, _, z2, z3, _, JS2⟩ := k.suite hstk hfr fly2 (u.trans u2)
      refine store_ok (X := X.suite a ((a, ob2) :: (X.pn ++ pins))) (v := .ref a) JS2 hN hi (.inl hln) rfl (fun s5 J5 => ?_) (.inr hln)
      have body := (suite a ob2 cls d (X.pn ++ pins) z2 z3).run [] s5 _ G _ J5 (yes rfl a k.na)
      refine wpAny_mono body (fun f s6 sp => ?_) fun _ _ z => z.elim
      have leave : ∀ {τ6 : L2.St} {G6 : Hp} {Q : Shared → Prop}, Inv (X.suite a ((a, ob2) :: (X.pn ++ pins))) [] τ6 G6 s6 → (∀ s7, Inv X pins (τ6.set i none) G6 s7 → Q s7) →
          wpAny (model X.prog X.w) X.A (do bindName X.env n .none; unbindBehindTheSuite X.env n q') (fun _ s7 => Q s7) X.xe s6 := fun J6 hq => gone_ok (J6.unsuite k.inv.ok) hN hi hln hq
      match f, sp with
      | .next, ⟨_, _, J6, q6⟩ => exact leave J6 fun s7 J7 => ⟨_, _, J7, q6⟩
      | .brk, ⟨_, _, J6, q6⟩ => exact leave J6 fun s7 J7 => ⟨_, _, J7, q6⟩
      | .cont, ⟨_, _, J6, q6⟩ => exact leave J6 fun s7 J7 => ⟨_, _, J7, q6⟩
      | .ret v, ⟨_, _, _, J6, r6, q6⟩ => exact leave J6 fun s7 J7 => ⟨_, _, _, J7, r6, q6⟩
theorem ps_tryN {body : List Stmt} {h₀ : ExceptHandler} {hs : List ExceptHandler} {cl : List Clause} {pos : Pos} {tb : WX → TS} (hN : X.N.Nodup) (hi : X.N[i]? = some n) (hln : X.env.kindOf n = some .local) (hstk : X.stack = X.env :: X.outer) (hfr : X.env.frame = some X.env.locals) (tk : Takes X out)
    (hb : ∀ (W : WX) (pn : List (Addr × Obj)) (xe : Value → Shared → Prop), Takes (X.tr pn xe) W → PassesOwn (model X.prog X.w) X.A X.env xe → PSs (X.tr pn xe) body (tb W)) (hh : Clauses X n (h₀ :: hs) cl) :
    PS X (.Try body (h₀ :: hs) [] [] pos) (fun D σ H => tb (wCl X.K out D i cl) D σ H) := ⟨fun pins s σ H D I h => by
  have ok := I.ok
  let caught : Value → Shared → Prop := fun e s₁ => wpAny (model X.prog X.w) X.A (noteFrame e X.env) (fun _ s₂ => wpAny (model X.prog X.w) X.A (setFlight e none) (fun _ s₃ => wpAny (model X.prog X.w) X.A (handleBy e X.env (h₀ :: hs)) (SP X pins D) X.xe s₃) X.xe s₂) X.xe s₁
  have takes : Takes (X.tr (X.pn ++ pins) caught) (wCl X.K out D i cl) := by
    rintro e s' ⟨a, B, sI, pn, τ, G, cls, d, rfl, J, nb, up, sky, na, os, ag, w⟩
    have sky' : Sky B (X.env :: X.outer) a (Zc cls d) X.env.locals s'.heap := hstk ▸ sky
    show wpAny (model X.prog X.w) X.A (noteFrame (.ref a) X.env) _ _ _
    exact Sky.land Zc.steady (by rw [ok.frames, hstk]) hfr sky' fun g fly u => clauses_run hN hi hln hstk hfr tk ⟨J.ofTry ok, nb, up, na, os, ag⟩ fly u hh w
  refine wpAny_Try_except (wpAny_mono ((hb _ (X.pn ++ pins) caught takes PassesOwn.looking).run [] s σ H D (I.toTry caught) h) (fun f s1 sp => ?_) fun e s1 he => he)
  match f, sp with
  | .next, ⟨_, _, J, q⟩ => exact wpAny_execs_nil ⟨_, _, J.ofTry ok, q⟩
  | .brk, ⟨_, _, J, q⟩ => exact ⟨_, _, J.ofTry ok, q⟩
  | .cont, ⟨_, _, J, q⟩ => exact ⟨_, _, J.ofTry ok, q⟩
  | .ret v, ⟨_, _, _, J, r, q⟩ => exact ⟨_, _, _, J.ofTry ok, r, q⟩⟩
end
end PL

set_option Elab.async false
set_option linter.all false
set_option maxRecDepth 100000
set_option maxHeartbeats 4000000
namespace PL
open PySem PySem.Spec L2
open PyProof.Rows hiding St
set_option autoImplicit false

/-! ### error classes of the program's own, and what the written part says of them -/
def oexB (K : PySem.W.Frag) (C : Addr) : Bool := match K.lookup C with
  | some ⟨.type "type", _, .cls cd, sl⟩ => (match cd.mro, sl.toList with
    | .ref C' :: bm, [_, _, _, _, some (.builtin n), _] => C' == C && n == "ValueError.__new__" && !cd.hasDel && cd.hasDict && PySem.HandSPX.refsVE bm
    | _, _ => false)
  | _ => false
theorem oexB_ok {K : PySem.W.Frag} {C : Addr} (h : oexB K C = true) (sa : PySem.W.findIn K (.ref C) "__setattr__" = some (some (.builtin "object.__setattr__"))) (ex : PySem.W.subIn K (.ref C) (.type "BaseException") = some true) (ty : PySem.W.typeIn K (.ref C) = some (.type "type")) (kp : PySem.W.keepIn K (.ref C) = true) : OexC K C := by
  refine ⟨?_, sa, ex, ty, kp⟩
  unfold oexB at h
  split at h
  · rename_i dd cd sl ho
    split at h
    · rename_i C' bm k0 k1 k2 k3 n k5 hm hs
      simp only [Bool.and_eq_true, beq_iff_eq, Bool.not_eq_true'] at h
      obtain ⟨⟨⟨⟨rfl, rfl⟩, hdel⟩, hdct⟩, hr⟩ := h
      obtain ⟨nm, bs, mro, ns, qn, hd, sn, sub, ab, col, del⟩ := cd
      dsimp only at hm hdel hdct
      subst hm hdel hdct
      have hsl : sl = #[k0, k1, k2, k3, some (.builtin "ValueError.__new__"), k5] := by
        obtain ⟨l⟩ := sl
        simp only at hs
        rw [hs]
      subst hsl
      exact ⟨_, _, _, _, _, _, _, _, _, _, _, _, _, _, _, ho, hr⟩
    · cases h
  · cases h
/-- the error class x with one field -/
def ecB (K : PySem.W.Frag) (x fld : Str) : Bool :=
  He.eqO (PySem.W.nsIn K mainGlobals x) (some (some (.ref (He.ga K x)))) && (oexB K (He.ga K x) && (He.eqO (PySem.W.findIn K (.ref (He.ga K x)) "__setattr__") (some (some (.builtin "object.__setattr__"))) &&
    (decide (PySem.W.subIn K (.ref (He.ga K x)) (.type "BaseException") = some true) && (decide (PySem.W.typeIn K (.ref (He.ga K x)) = some (.type "type")) && (PySem.W.keepIn K (.ref (He.ga K x)) &&
    (He.eqO (PySem.W.findIn K (.ref (He.ga K x)) "__init__") (some (some (.ref (He.ma K (He.ga K x) "__init__")))) && (decide (PySem.W.typeIn K (.ref (He.ma K (He.ga K x) "__init__")) = some (.type "function")) &&
    (He.eqO (PySem.W.findIn K (.ref (He.ga K x)) fld) (some none) && xfB K (He.ga K x)))))))))
structure EcK (K : PySem.W.Frag) (x fld : Str) : Prop where
  ns : PySem.W.nsIn K mainGlobals x = some (some (.ref (He.ga K x)))
  oex : OexC K (He.ga K x)
  ini : PySem.W.findIn K (.ref (He.ga K x)) "__init__" = some (some (.ref (He.ma K (He.ga K x) "__init__")))
  ity : PySem.W.typeIn K (.ref (He.ma K (He.ga K x) "__init__")) = some (.type "function")
  fld : PySem.W.findIn K (.ref (He.ga K x)) fld = some none
  xf : XfC K (He.ga K x)
theorem ecB_ok {K : PySem.W.Frag} {x fld : Str} (h : ecB K x fld = true) : EcK K x fld := by
  unfold ecB at h
  simp only [Bool.and_eq_true] at h
  obtain ⟨h1, h2, h3, h4, h5, h6, h7, h8, h9, h10⟩ := h
  exact ⟨He.eqO_ok h1, oexB_ok h2 (He.eqO_ok h3) (of_decide_eq_true h4) (of_decide_eq_true h5) h6, He.eqO_ok h7, of_decide_eq_true h8, He.eqO_ok h9, xfB_ok h10⟩
/-- the base class x: its __init__ is ValueError's -/
def peB (K : PySem.W.Frag) (x : Str) : Bool :=
  He.eqO (PySem.W.nsIn K mainGlobals x) (some (some (.ref (He.ga K x)))) && (He.eqO (PySem.W.specialIn K (.ref (He.ga K x)) "__getattribute__") (some (some (.builtin "type.__getattribute__"))) &&
    (PySem.W.readsIn K (He.ga K x) (.type "type") && (match PySem.W.findCls K (.ref (He.ga K x)) (.type "type") "__init__" with
      | some (.val (.builtin n)) => n == "ValueError.__init__"
      | _ => false)))
structure PeK (K : PySem.W.Frag) (x : Str) : Prop where
  ns : PySem.W.nsIn K mainGlobals x = some (some (.ref (He.ga K x)))
  ga : PySem.W.specialIn K (.ref (He.ga K x)) "__getattribute__" = some (some (.builtin "type.__getattribute__"))
  rd : PySem.W.readsIn K (He.ga K x) (.type "type") = true
  at_ : PySem.W.findCls K (.ref (He.ga K x)) (.type "type") "__init__" = some (.val (.builtin "ValueError.__init__"))
theorem peB_ok {K : PySem.W.Frag} {x : Str} (h : peB K x = true) : PeK K x := by
  unfold peB at h
  simp only [Bool.and_eq_true] at h
  obtain ⟨h1, h2, h3, h4⟩ := h
  refine ⟨He.eqO_ok h1, He.eqO_ok h2, h3, ?_⟩
  split at h4
  · rename_i n e
    rw [e, beq_iff_eq.mp h4]
  · cases h4
def exmB (K : PySem.W.Frag) (L : List Str) : Bool := L.all fun a => L.all fun b => decide (PySem.W.exmOne K (.ref (He.ga K a)) (.ref (He.ga K b)) = some (decide (a = b)))
theorem exmB_ok {K : PySem.W.Frag} {L : List Str} (h : exmB K L = true) {a b : Str} (ha : a ∈ L) (hb : b ∈ L) : PySem.W.exmOne K (.ref (He.ga K a)) (.ref (He.ga K b)) = some (decide (a = b)) :=
  of_decide_eq_true (List.all_eq_true.mp (List.all_eq_true.mp h a ha) b hb)

/-! ### their making -/
section
variable {X : Cx} {W : WX} {fr : Bool} {k : Nat}
/-- Base.__init__(self, ..), the base a class of the program's own that has ValueError's -/
theorem pe_baseinit {x : Str} {p1 p2 pos : Pos} {e : Expr} {es : List Expr} {ta : TA} {pl : Sem Bool} (T : PeK X.K x) (hg : Gl X x) (hm : X.mg x = some (.ref (He.ga X.K x))) (ha : PA X (e :: es) ta)
    (hc : eval (.Call (.Attribute (.Name x p1) "__init__" p2) (e :: es) [] pos) X.env = (do
      let ov ← eval (.Name x p1) X.env
      standAt p2.atName
      let (f, first) ← holding [ov] (getMethod ov "__init__" pl)
      callWith pos f first (backTo pos (starEach (e :: es) X.env)) (backToKw pos (keywordEach [] X.env))) := by rfl)
    (he : starEach (e :: es) X.env = (false, eval e X.env) :: starEach es X.env := by rfl) (hpl : (backTo pos (starEach es X.env)).any (·.1) = false := by rfl) (hdb : (x == ("__debug__" : Str)) = false := by decide) :
    PE X (.Call (.Attribute (.Name x p1) "__init__" p2) (e :: es) [] pos) (tVeI X.K ta) := ⟨fun pins s σ H Q I h => by
  refine PySem.W.methodCall_KW (ld_glob I hg hm ?_ hdb) hc
  refine PySem.W.method_cls I.kIn T.ga (PySem.W.cls_value I.kIn T.rd T.at_ (by decide +kernel) ?_)
  refine PyProof.Rows.callWith_method1 (thn (ha.run pos pins _ σ H _ (I.tok _) h) fun us s1 r => ?_) he hpl
  obtain ⟨vs, H1, I1, rv, a, C, ws, ev, hl, O, ea, q⟩ := r
  subst ev
  cases rv with
  | cons r1 r2 =>
    cases r1
    refine oinit_ok O I1 ea ?_ fun s' J => ⟨.non, H1, J, rfl, q⟩
    have z := Paired.length r2
    rw [sizeLine_eq]
    omega⟩
def spI (K : PySem.W.Frag) (fld : Str) : Sp := fun vs H Q _ => ∃ (a C : Addr) (z : Str), vs = [.ref a, .str z] ∧ z.length ≤ 1000 ∧ OexC K C ∧ PySem.W.findIn K (.ref C) fld = some none ∧ H a = some (exo a C none) ∧
  ∀ dx, H dx = none → dx ≠ a → Q .non (upd (upd H dx (exd dx [(fld, .str z)])) a (exo a C (some dx)))
/-- an error class is made so -/
structure Ec (P : Program) (w : World) (K : PySem.W.Frag) (mg : Str → Option Value) (base : Heap) (x fld : Str) : Prop where
  k : EcK K x fld
  at_ : mg x = some (.ref (He.ga K x))
  ok : ∃ (fd : FuncData) (ps : List Str), FnOk P w K mg base (L2.CX P w) 1 (He.ma K (He.ga K x) "__init__") fd ps (spI K fld) ∧ Binds K fd ps []
def sRaise (x fld : Str) (da : Den) : DenS := fun ρ => (da ρ).bindS fun p ρ1 => match p with
  | .str z => if z.length ≤ 1000 then .exc ⟨x, fld, .str z⟩ ρ1 else .bad
  | _ => .bad
theorem ds_raise {x fld : Str} {e : Expr} {p pos pos2 : Pos} {da : Den} (E : Ec X.prog X.w X.K X.mg X.base x fld) (c : Ctx X W k) (ha : DE X W e da) (hk : 2 ≤ k := by decide) (hg : Gl X x := by rfl) (hdb : (x == ("__debug__" : Str)) = false := by decide)
    (he : starEach [e] X.env = (false, eval e X.env) :: starEach [] X.env := by rfl) (hpl : (backTo pos (starEach [] X.env)).any (·.1) = false := by rfl) : DS X W fr (.Raise (some (.Call (.Name x p) [e] [] pos)) none pos2) (sRaise x fld da) := by
  obtain ⟨fd, ps, ok, hb⟩ := E.ok
  refine DS.of (ps_raise c.calm c.tk (pmk_oex E.k.oex E.k.ini E.k.ity ok (c.room.mono hk) hb .nil passL hg E.at_ (pa_cons ha pa_nil he) hdb he hpl)) fun H₀ S₀ M S σ H ρ D ab hp => ?_
  refine XOk.bindS (Rl := rV X.K) canon_ok ab hp fun q ρ1 v S1 H1 _ a1 _ r1 hp => ?_
  cases q with
  | str z =>
    have hp : SPost X.K X.mg W fr H₀ S₀ M (if z.length ≤ 1000 then .exc ⟨x, fld, .str z⟩ ρ1 else .bad) D := hp
    by_cases hz : z.length ≤ 1000
    · rw [if_pos hz] at hp
      cases r1
      refine ⟨by simp, fun a ha => ⟨a, He.ga X.K x, z, rfl, hz, E.k.oex, E.k.fld, upd_same, fun dx hd hne => ⟨rfl, dx, [(fld, .str z)], upd_same, ?_, ?_, ?_⟩⟩⟩
      · rw [upd_ne hne, upd_same]
      · rw [upd_ne hne] at hd
        exact hd
      · rw [upd_ne hne] at hd
        have e1 : upd (del (upd (upd (upd H1 a (exo a (He.ga X.K x) none)) dx (exd dx [(fld, .str z)])) a (exo a (He.ga X.K x) (some dx))) a) dx (.xd [(fld, .str z)]) = upd H1 dx (.xd [(fld, .str z)]) := by
          funext b
          by_cases h1 : b = dx
          · subst h1; rw [upd_same, upd_same]
          · rw [upd_ne h1, upd_ne h1]
            by_cases h2 : b = a
            · subst h2; rw [del_same, ha]
            · rw [del_ne h2, upd_ne h2, upd_ne h1, upd_ne h2]
        rw [e1]
        exact hp _ _ S1 σ _ (a1.step (Step.hid a1.sub hd)) ⟨_, dx, .str z, E.at_, rfl, rfl, upd_same, .str z⟩
    · rw [if_neg hz] at hp
      exact hp.elim
  | _ => exact hp.elim

/-! ### try: .. except X as n: return n.field .. -/
def sTry (cs : List Str) (fld : Str) (i : Nat) (body : DenS) : DenS := fun ρ => match body ρ with
  | .exc x ρ1 => if (cs.contains x.cls && decide (x.fld = fld)) && decide (i < ρ1.length) then .rt x.val (ρ1.set i .un) else .bad
  | r => r
theorem clause_in {K : PySem.W.Frag} {mg : Str → Option Value} {L : List Str} {out : WX} {D : Ends} {i : Nat} {x : Exn} {S0 : Hp} {cls : Value} {d : Option Addr} {σ : L2.St} {G : Hp} {fld : Str} (ex : exmB K L = true) (hmg : ∀ y ∈ L, mg y = some (.ref (He.ga K y))) (hx : x.cls ∈ L) (re : ExcRep K mg S0 G x cls d) (hf : x.fld = fld) (hi : i < σ.length) (hD : ∀ v, Rep K S0 x.val v → D.rt v G) :
    ∀ (cs : List Str), (∀ y ∈ cs, y ∈ L) → x.cls ∈ cs → wCl K out D i (cs.map fun y => (.ref (He.ga K y), fun a cls d => tRet (tXf a cls d (He.ga K y) fld (tVar i)))) cls d σ G := by
  obtain ⟨C, dx, v, h1, h2, h3, h4, h5⟩ := re
  have eC : C = He.ga K x.cls := by
    have z := hmg _ hx
    rw [h1] at z
    cases z
    rfl
  subst eC
  subst h2
  intro cs
  induction cs with
  | nil => intro _ h; cases h
  | cons y r ih =>
    intro hs h
    refine ⟨decide (x.cls = y), exmB_ok ex hx (hs y List.mem_cons_self), fun hit a _ => ?_, fun hit => ?_⟩
    · have e : x.cls = y := of_decide_eq_true hit
      subst e
      refine ⟨.ref a, List.getElem?_set_self hi, rfl, rfl, dx, [(x.fld, v)], v, h3, h4, ?_, hD v h5⟩
      rw [← hf]
      simp [List.lookup]
    · have ne : x.cls ≠ y := of_decide_eq_false hit
      exact ih (fun z hz => hs z (List.mem_cons_of_mem _ hz)) (by
        rcases List.mem_cons.mp h with e | e
        · exact absurd e ne
        · exact e)
theorem ds_try {body : List Stmt} {h₀ : ExceptHandler} {hs : List ExceptHandler} {pos : Pos} {n fld : Str} {d : DenS} (L cs : List Str) (i : Nat) (ex : exmB X.K L = true) (hmg : ∀ y ∈ L, X.mg y = some (.ref (He.ga X.K y))) (c : Ctx X W k)
    (hb : ∀ (W' : WX) (pn : List (Addr × Obj)) (xe : Value → Shared → Prop), Ctx (X.tr pn xe) W' k → Po (X.tr pn xe) → DSs (X.tr pn xe) W' false body d) (hcl : Clauses X n (h₀ :: hs) (cs.map fun y => (.ref (He.ga X.K y), fun a cls d => tRet (tXf a cls d (He.ga X.K y) fld (tVar i)))))
    (hsub : ∀ y ∈ cs, y ∈ L := by decide) (hi : X.N[i]? = some n := by rfl) (hln : X.env.kindOf n = some .local := by rfl) (hstk : X.stack = X.env :: X.outer := by rfl) (hfr : X.env.frame = some X.env.locals := by rfl) :
    DS X W false (.Try body (h₀ :: hs) [] [] pos) (sTry cs fld i d) := by
  have hlen : i < X.N.length := (List.getElem?_eq_some_iff.mp hi).1
  have P := ps_tryN (pos := pos) (out := W) c.nd hi hln hstk hfr c.tk (tb := fun W' => canonS X.K X.mg W' false d) (fun W' pn xe tk po => hb W' pn xe ⟨c.calm, c.nd, c.room, tk⟩ po) hcl
  refine ⟨fun pins s σ H D I q => P.run pins s σ H D I ?_⟩
  obtain ⟨H₀, S₀, M, S, ρ, ab, hp⟩ := q
  have hl : ρ.length = X.N.length := by rw [ab.len]; exact I.len
  refine ⟨H₀, S₀, M, S, ρ, ab, ?_⟩
  unfold sTry at hp
  cases e : d ρ with
  | bad => rw [e] at hp; exact hp
  | nx ρ1 => rw [e] at hp; exact hp
  | bk ρ1 => rw [e] at hp; exact hp
  | ct ρ1 => rw [e] at hp; exact hp
  | rt p ρ1 => rw [e] at hp; exact hp
  | exc x ρ1 =>
    simp only [e] at hp
    by_cases hc : ((cs.contains x.cls && decide (x.fld = fld)) && decide (i < ρ1.length)) = true
    · rw [if_pos hc] at hp
      obtain ⟨hc0, hc3⟩ := (Bool.and_eq_true _ _).mp hc
      obtain ⟨hc1, hc2⟩ := (Bool.and_eq_true _ _).mp hc0
      have hm : x.cls ∈ cs := by simpa using hc1
      intro cls dd S' σ' H' a1 re
      have hlt : i < σ'.length := by rw [← a1.len]; exact of_decide_eq_true hc3
      refine clause_in ex hmg (hsub _ hm) re (of_decide_eq_true hc2) hlt (fun v rv => ?_) cs hsub hm
      refine hp v S' σ' H' (a1.forget ?_ fun j s ej hn => ?_) rv
      · rw [List.length_set]; exact a1.len
      · by_cases hj : j = i
        · subst hj
          rw [List.getElem?_set_self (by rw [a1.len]; exact hlt)] at ej
          cases ej
          exact absurd rfl hn
        · rw [List.getElem?_set_ne (Ne.symm hj)] at ej
          exact ⟨ej, rfl⟩
    · rw [if_neg hc] at hp
      exact hp.elim
end
end PL

set_option Elab.async false
set_option linter.all false
set_option maxRecDepth 100000
set_option maxHeartbeats 4000000
namespace PL
open PySem PySem.Spec L2
open PyProof.Rows hiding St
set_option autoImplicit false

/-! ### keys of dicts -/
abbrev KK := Key ⊕ List Key
def key? : PV → Option Key
  | .int i => some (.inl i)
  | .str x => some (.inr x)
  | _ => none
def keys? : List PV → Option (List Key)
  | [] => some []
  | p :: ps => (key? p).bind fun k => (keys? ps).map fun ks => k :: ks
def kk? : PV → Option KK
  | .tup ps => (keys? ps).map .inr
  | p => (key? p).map .inl
def kEq (p q : PV) : Bool := match kk? p, kk? q with
  | some a, some b => decide (a = b)
  | _, _ => false
theorem key?_keyPV (k : Key) : key? (keyPV k) = some k := by cases k <;> rfl
theorem key?_some {p : PV} {k : Key} (h : key? p = some k) : p = keyPV k := by
  cases p <;> simp [key?] at h <;> subst h <;> rfl
theorem keys?_map : ∀ ks : List Key, keys? (ks.map keyPV) = some ks
  | [] => rfl
  | k :: ks => by
    show (key? (keyPV k)).bind (fun k => (keys? (ks.map keyPV)).map fun ks => k :: ks) = _
    rw [key?_keyPV, keys?_map ks]
    rfl
theorem keys?_some : ∀ {ps : List PV} {ks : List Key}, keys? ps = some ks → ps = ks.map keyPV
  | [], _, h => by cases h; rfl
  | p :: ps, ks, h => by
    have h : (key? p).bind (fun k => (keys? ps).map fun ks => k :: ks) = some ks := h
    cases h1 : key? p with
    | none => rw [h1] at h; cases h
    | some k =>
      cases h2 : keys? ps with
      | none => rw [h1, h2] at h; cases h
      | some ks' =>
        rw [h1, h2] at h
        cases h
        rw [key?_some h1, keys?_some h2]
        rfl
theorem kk?_key (k : Key) : kk? (keyPV k) = some (.inl k) := by cases k <;> rfl
theorem kk?_keys (ks : List Key) : kk? (.tup (ks.map keyPV)) = some (.inr ks) := by
  show (keys? (ks.map keyPV)).map Sum.inr = _
  rw [keys?_map]
  rfl
/-- what a dict holds at a key -/
def dLook : List PV → List PV → PV → Option PV
  | k :: ks, v :: vs, q => if kEq k q = true then some v else dLook ks vs q
  | _, _, _ => none
/-- .. and with the key stored -/
def dPut : List PV → List PV → PV → PV → List PV × List PV
  | k :: ks, v :: vs, q, e => if kEq k q = true then (k :: ks, e :: vs) else ((k :: (dPut ks vs q e).1), (v :: (dPut ks vs q e).2))
  | _, _, q, e => ([q], [e])
section
variable {K : PySem.W.Frag} {S : Hp}
theorem Rep.keyV {k : Key} {v : V} (h : Rep K S (keyPV k) v) : v = kV k := by
  cases k <;> cases h <;> rfl
theorem RepL.keyVs : ∀ {ks : List Key} {vs : List V}, RepL K S (ks.map keyPV) vs → vs = ks.map kV
  | [], _, h => by cases h; rfl
  | k :: ks, _, h => by
    cases h with
    | cons h1 h2 => rw [Rep.keyV h1, RepL.keyVs h2]; rfl
theorem dLookK (k : Key) : ∀ {kvs : List (Key × V)} {ps : List PV} {p : PV}, RepL K S ps (kvs.map (·.2)) → dLook (kvs.map fun q => keyPV q.1) ps (keyPV k) = some p → ∃ v, valV kvs k = some v ∧ Rep K S p v
  | [], _, _, h, e => by cases h; cases e
  | (k', v) :: kvs, _, p, h, e => by
    cases h with
    | cons h1 h2 =>
      have e : (if kEq (keyPV k') (keyPV k) = true then some _ else dLook (kvs.map fun q => keyPV q.1) _ (keyPV k)) = some p := e
      have ek : kEq (keyPV k') (keyPV k) = decide (k' = k) := by
        unfold kEq
        rw [kk?_key, kk?_key]
        by_cases hk : k' = k
        · subst hk; simp
        · simp [hk]
      rw [ek] at e
      by_cases hk : k' = k
      · rw [if_pos (decide_eq_true hk)] at e
        cases e
        exact ⟨v, valV_pos hk, h1⟩
      · rw [if_neg (by simp [hk])] at e
        rw [valV_neg hk]
        exact dLookK k h2 e
theorem dLookKn (k : Key) : ∀ {kvs : List (Key × V)} {ps : List PV}, RepL K S ps (kvs.map (·.2)) → dLook (kvs.map fun q => keyPV q.1) ps (keyPV k) = none → valV kvs k = none
  | [], _, h, e => rfl
  | (k', v) :: kvs, _, h, e => by
    cases h with
    | cons h1 h2 =>
      have e : (if kEq (keyPV k') (keyPV k) = true then some _ else dLook (kvs.map fun q => keyPV q.1) _ (keyPV k)) = none := e
      have ek : kEq (keyPV k') (keyPV k) = decide (k' = k) := by
        unfold kEq
        rw [kk?_key, kk?_key]
        by_cases hk : k' = k
        · subst hk; simp
        · simp [hk]
      rw [ek] at e
      by_cases hk : k' = k
      · rw [if_pos (decide_eq_true hk)] at e
        cases e
      · rw [if_neg (by simp [hk])] at e
        rw [valV_neg hk]
        exact dLookKn k h2 e
theorem kEq_keys (a b : List Key) : kEq (.tup (a.map keyPV)) (.tup (b.map keyPV)) = decide (a = b) := by
  unfold kEq
  rw [kk?_keys, kk?_keys]
  by_cases hk : a = b
  · subst hk; simp
  · simp [hk]
theorem dLookT (k : List Key) : ∀ {kvs : List (List Key × V)} {ps : List PV} {p : PV}, RepL K S ps (kvs.map (·.2)) → dLook (kvs.map fun q => .tup (q.1.map keyPV)) ps (.tup (k.map keyPV)) = some p → ∃ v, valV kvs k = some v ∧ Rep K S p v
  | [], _, _, h, e => by cases h; cases e
  | (k', v) :: kvs, _, p, h, e => by
    cases h with
    | cons h1 h2 =>
      have e : (if kEq (.tup (k'.map keyPV)) (.tup (k.map keyPV)) = true then some _ else dLook (kvs.map fun q => .tup (q.1.map keyPV)) _ (.tup (k.map keyPV))) = some p := e
      rw [kEq_keys] at e
      by_cases hk : k' = k
      · rw [if_pos (decide_eq_true hk)] at e
        cases e
        exact ⟨v, valV_pos hk, h1⟩
      · rw [if_neg (by simp [hk])] at e
        rw [valV_neg hk]
        exact dLookT k h2 e
theorem dLookTn (k : List Key) : ∀ {kvs : List (List Key × V)} {ps : List PV}, RepL K S ps (kvs.map (·.2)) → dLook (kvs.map fun q => .tup (q.1.map keyPV)) ps (.tup (k.map keyPV)) = none → valV kvs k = none
  | [], _, h, e => rfl
  | (k', v) :: kvs, _, h, e => by
    cases h with
    | cons h1 h2 =>
      have e : (if kEq (.tup (k'.map keyPV)) (.tup (k.map keyPV)) = true then some _ else dLook (kvs.map fun q => .tup (q.1.map keyPV)) _ (.tup (k.map keyPV))) = none := e
      rw [kEq_keys] at e
      by_cases hk : k' = k
      · rw [if_pos (decide_eq_true hk)] at e
        cases e
      · rw [if_neg (by simp [hk])] at e
        rw [valV_neg hk]
        exact dLookTn k h2 e
/-- the key's kind is the dict's -/
def kOk : Bool → PV → Bool
  | true, .tup _ => true
  | false, .int _ => true
  | false, .str _ => true
  | _, _ => false
/-- a dict shared or owned: looked up -/
inductive DRep (K : PySem.W.Frag) (S H : Hp) : Bool → List PV → List PV → Addr → Prop
  | k {a : Addr} {kvs : List (Key × V)} {ps : List PV} : Rd H a (.dK kvs) → RepL K S ps (kvs.map (·.2)) → DRep K S H false (kvs.map fun p => keyPV p.1) ps a
  | t {a : Addr} {kvs : List (List Key × V)} {ps : List PV} : Rd H a (.dT kvs) → RepL K S ps (kvs.map (·.2)) → DRep K S H true (kvs.map fun p => .tup (p.1.map keyPV)) ps a
theorem DRep.of {H : Hp} {tk : Bool} {ks ps : List PV} {v : V} (s : Same S H) (h : Rep K S (.dic tk ks ps) v) : ∃ a, v = .ref a ∧ DRep K S H tk ks ps a := by
  cases h with
  | dK h1 h2 => exact ⟨_, rfl, .k (h1.same s) h2⟩
  | dT h1 h2 => exact ⟨_, rfl, .t (h1.same s) h2⟩
theorem DRep.own {H : Hp} {tk : Bool} {ks ps : List PV} {b : Addr} {o : HO} (h : H b = some o) (w : OwnO K S (.dic tk ks ps) o) : DRep K S H tk ks ps b := by
  cases tk <;> cases o
  case false.dK kvs =>
    obtain ⟨rfl, h2⟩ := (show ks = kvs.map (fun p => keyPV p.1) ∧ RepL K S ps (kvs.map (·.2)) from w)
    exact .k (.inl h) h2
  case true.dT kvs =>
    obtain ⟨rfl, h2⟩ := (show ks = kvs.map (fun p => .tup (p.1.map keyPV)) ∧ RepL K S ps (kvs.map (·.2)) from w)
    exact .t (.inl h) h2
  all_goals exact w.elim
theorem DRep.isD {H : Hp} {tk : Bool} {ks ps : List PV} {a : Addr} (h : DRep K S H tk ks ps a) : IsD H a := by
  cases h with
  | k h1 _ => exact .inl ⟨_, h1⟩
  | t h1 _ => exact .inr ⟨_, h1⟩
theorem DRep.get {H : Hp} {tk : Bool} {ks ps : List PV} {a : Addr} {q : PV} {y : V} (s : Same S H) (h : DRep K S H tk ks ps a) (ry : Rep K S q y) (hk : (kk? q).isSome = true) (ho : kOk tk q = true) :
    (∀ p, dLook ks ps q = some p → ∃ v, DGet H a y (some v) ∧ Rep K S p v) ∧ (dLook ks ps q = none → DGet H a y none) := by
  have keyed : ∀ k, key? q = some k → (∀ p, dLook ks ps q = some p → ∃ v, DGet H a y (some v) ∧ Rep K S p v) ∧ (dLook ks ps q = none → DGet H a y none) := fun k hq => by
    have eq := key?_some hq
    subst eq
    have ey := ry.keyV
    subst ey
    cases h with
    | k h3 h4 =>
      refine ⟨fun p e => ?_, fun e => ?_⟩
      · obtain ⟨v, z1, z2⟩ := dLookK k h4 e
        exact ⟨v, .inl ⟨_, k, h3, rfl, z1.symm⟩, z2⟩
      · exact .inl ⟨_, k, h3, rfl, (dLookKn k h4 e).symm⟩
    | t h3 h4 =>
      cases k <;> cases ho
  cases q with
  | tup qs =>
    cases ry with
    | tup h1 h2 =>
      rename_i b us
      have hk : ((keys? qs).map (Sum.inr : List Key → KK)).isSome = true := hk
      cases hks : keys? qs with
      | none => rw [hks] at hk; cases hk
      | some k =>
        have eq := keys?_some hks
        subst eq
        have hx := s _ _ h1
        rw [h2.keyVs] at hx
        cases h with
        | t h3 h4 =>
          refine ⟨fun p e => ?_, fun e => ?_⟩
          · obtain ⟨v, z1, z2⟩ := dLookT k h4 e
            exact ⟨v, .inr ⟨_, k, b, h3, rfl, hx, z1.symm⟩, z2⟩
          · exact .inr ⟨_, k, b, h3, rfl, hx, (dLookTn k h4 e).symm⟩
        | k h3 h4 =>
          cases ho
  | int i => exact keyed (.inl i) rfl
  | str x => exact keyed (.inr x) rfl
  | _ => cases hk
end
end PL

set_option Elab.async false
set_option linter.all false
set_option maxRecDepth 100000
set_option maxHeartbeats 4000000
namespace PL
open PySem PySem.Spec L2
open PyProof.Rows hiding St
set_option autoImplicit false

/-! ### dicts: rules -/
def kGood (t : Bool) (q : PV) : Bool := (kk? q).isSome && kOk t q
def gDG : PV → PV → Option PV
  | .dic t ks vs, q => if kGood t q then dLook ks vs q else none
  | _, _ => none
def gDHas (neg : Bool) : PV → PV → Option PV
  | q, .dic t ks vs => if kGood t q then some (.bl (if neg then !(dLook ks vs q).isSome else (dLook ks vs q).isSome)) else none
  | _, _ => none
def gDG2 : PV → PV → PV → Option PV
  | .dic t ks vs, q, d => if kGood t q then some ((dLook ks vs q).getD d) else none
  | _, _, _ => none
def dGet2 (da db dc : Den) : Den := fun ρ => (da ρ).bind fun p ρ1 => (db ρ1).bind fun q ρ2 => (dc ρ2).bind fun d ρ3 => opt (gDG2 p q d) ρ3
def dGet2v (i : Nat) (db dc : Den) : Den := fun ρ => match slot ρ i with
  | some (.dic _ _ _) => (db ρ).bind fun q ρ2 => (dc ρ2).bind fun d ρ3 => match slot ρ3 i with
    | some p => opt (gDG2 p q d) ρ3
    | none => .bad
  | _ => .bad
section
variable {K : PySem.W.Frag} {mg : Str → Option Value} {W : WX}
theorem DRep.got {S H : Hp} {t : Bool} {ks ps : List PV} {a : Addr} {q p : PV} {y : V} (s : Same S H) (h : DRep K S H t ks ps a) (ry : Rep K S q y) (hk : kGood t q = true) (e : dLook ks ps q = some p) : ∃ v, DGet H a y (some v) ∧ Rep K S p v :=
  (h.get s ry ((Bool.and_eq_true _ _).mp hk).1 ((Bool.and_eq_true _ _).mp hk).2).1 p e
theorem DRep.not {S H : Hp} {t : Bool} {ks ps : List PV} {a : Addr} {q : PV} {y : V} (s : Same S H) (h : DRep K S H t ks ps a) (ry : Rep K S q y) (hk : kGood t q = true) (e : dLook ks ps q = none) : DGet H a y none :=
  (h.get s ry ((Bool.and_eq_true _ _).mp hk).1 ((Bool.and_eq_true _ _).mp hk).2).2 e
/-- a dict in a slot, shared or owned -/
theorem Abs.dict {H₀ S₀ : Hp} {M : Addr → Prop} {S H : Hp} {σ : L2.St} {ρ : Env} {i : Nat} {t : Bool} {ks ps : List PV} (a : Abs K H₀ S₀ M S σ H ρ) (e : slot ρ i = some (.dic t ks ps)) :
    ∃ b, σ[i]? = some (some (.ref b)) ∧ DRep K S H t ks ps b := by
  obtain ⟨v, hv, h⟩ := a.lookL e
  rcases h with h | ⟨b, o, rfl, h2, h3, h4⟩
  · obtain ⟨b, rfl, h5⟩ := DRep.of a.sub h
    exact ⟨b, hv, h5⟩
  · exact ⟨b, hv, DRep.own h3 h4⟩
theorem eo_dg {td ty : TE} {da db : Den} (ha : EOk K mg W td da) (hb : EOk K mg W ty db) : EOk K mg W (tDGet td ty) (d2 gDG da db) := fun H₀ S₀ M S σ H ρ Q ab hp =>
  ha.bind (Rl' := rV K) ab hp fun p ρ1 v S1 H1 _ a1 _ r1 hp => hb.bind (Rl' := rV K) a1 hp fun q ρ2 y S2 H2 _ a2 s2 r2 hp => by
    cases p with
    | dic t ks vs =>
      by_cases hk : kGood t q = true
      · cases e : dLook ks vs q with
        | none => simp only [gDG, if_pos hk, e] at hp; exact hp.elim
        | some z =>
          simp only [gDG, if_pos hk, e] at hp
          obtain ⟨a, rfl, h⟩ := DRep.of a2.sub (r1.up s2)
          obtain ⟨v, h1, h2⟩ := h.got a2.sub r2 hk e
          exact ⟨a, v, rfl, h1, hp v S2 H2 a2 h2⟩
      · simp only [gDG, if_neg hk] at hp; exact hp.elim
    | _ => exact hp.elim
theorem eo_dgv {i : Nat} {ty : TE} {db : Den} (hb : EOk K mg W ty db) : EOk K mg W (tDGet (tVar i) ty) (d2l gDG i db) := fun H₀ S₀ M S σ H ρ Q ab hp => by
  unfold d2l at hp
  cases e0 : slot ρ i with
  | none => rw [e0] at hp; exact hp.elim
  | some p0 =>
    rw [e0] at hp
    obtain ⟨v0, _, hv, _⟩ := ab.look e0
    refine ⟨v0, hv, hb.bind (Rl' := rV K) ab hp fun q ρ1 y S1 H1 _ a1 _ r1 hp => ?_⟩
    cases e1 : slot ρ1 i with
    | none => rw [e1] at hp; exact hp.elim
    | some p =>
      rw [e1] at hp
      cases p with
      | dic t ks vs =>
        obtain ⟨b, h1, h2⟩ := a1.dict e1
        rw [hv] at h1
        cases h1
        by_cases hk : kGood t q = true
        · cases e : dLook ks vs q with
          | none => simp only [gDG, if_pos hk, e] at hp; exact hp.elim
          | some z =>
            simp only [gDG, if_pos hk, e] at hp
            obtain ⟨v, h3, h4⟩ := h2.got a1.sub r1 hk e
            exact ⟨b, v, rfl, h3, hp v S1 H1 a1 h4⟩
        · simp only [gDG, if_neg hk] at hp; exact hp.elim
      | _ => exact hp.elim
theorem eo_dget2v {i : Nat} {ty tx : TE} {db dc : Den} (hb : EOk K mg W ty db) (hc : EOk K mg W tx dc) : EOk K mg W (tDGet2 (tVar i) ty tx) (dGet2v i db dc) := fun H₀ S₀ M S σ H ρ Q ab hp => by
  unfold dGet2v at hp
  cases e0 : slot ρ i with
  | none => rw [e0] at hp; exact hp.elim
  | some p0 =>
    rw [e0] at hp
    cases p0 with
    | dic t0 ks0 vs0 =>
      obtain ⟨b, hv, h0⟩ := ab.dict e0
      refine ⟨.ref b, hv, b, rfl, h0.isD, hb.bind (Rl' := rV K) ab hp fun q ρ1 y S1 H1 _ a1 _ r1 hp => hc.bind (Rl' := rV K) a1 hp fun d ρ2 z S2 H2 _ a2 s2 r2 hp => ?_⟩
      cases e1 : slot ρ2 i with
      | none => rw [e1] at hp; exact hp.elim
      | some p =>
        rw [e1] at hp
        cases p with
        | dic t ks vs =>
          obtain ⟨b', h1, h2⟩ := a2.dict e1
          rw [hv] at h1
          cases h1
          by_cases hk : kGood t q = true
          · simp only [gDG2, if_pos hk] at hp
            cases e : dLook ks vs q with
            | none =>
              rw [e] at hp
              exact ⟨none, h2.not a2.sub (r1.up s2) hk e, hp z S2 H2 a2 r2⟩
            | some p' =>
              rw [e] at hp
              obtain ⟨v, h3, h4⟩ := h2.got a2.sub (r1.up s2) hk e
              exact ⟨some v, h3, hp v S2 H2 a2 h4⟩
          · simp only [gDG2, if_neg hk] at hp; exact hp.elim
        | _ => exact hp.elim
    | _ => exact hp.elim
theorem dhas_core {neg : Bool} {i : Nat} {ty : TE} {db : Den} (hb : EOk K mg W ty db) {H₀ S₀ : Hp} {M : Addr → Prop} {S H : Hp} {σ : L2.St} {ρ : Env} {Q : VK} (ab : Abs K H₀ S₀ M S σ H ρ) (hp : Post K mg W (rV K) H₀ S₀ M σ (d2r (gDHas neg) db i ρ) Q) :
    ty σ H fun y H1 => ∃ x, σ[i]? = some (some x) ∧ ∃ a o, x = .ref a ∧ DGet H1 a y o ∧ Q (.bl (if neg then !o.isSome else o.isSome)) H1 :=
  hb.bind (Rl' := rV K) ab hp fun q ρ1 y S1 H1 _ a1 _ r1 hp => by
    cases e1 : slot ρ1 i with
    | none => rw [e1] at hp; exact hp.elim
    | some p =>
      rw [e1] at hp
      cases p with
      | dic t ks vs =>
        obtain ⟨b, h1, h2⟩ := a1.dict e1
        refine ⟨.ref b, h1, b, ?_⟩
        by_cases hk : kGood t q = true
        · simp only [gDHas, if_pos hk] at hp
          cases e : dLook ks vs q with
          | none =>
            rw [e] at hp
            exact ⟨none, rfl, h2.not a1.sub r1 hk e, hp _ S1 H1 a1 (.bl _)⟩
          | some p' =>
            rw [e] at hp
            obtain ⟨v, h3, h4⟩ := h2.got a1.sub r1 hk e
            exact ⟨some v, rfl, h3, hp _ S1 H1 a1 (.bl _)⟩
        · simp only [gDHas, if_neg hk] at hp; cases q <;> exact hp.elim
      | _ => cases q <;> exact hp.elim
theorem eo_din {i : Nat} {ty : TE} {db : Den} (hb : EOk K mg W ty db) : EOk K mg W (tDIn ty (tVar i)) (d2r (gDHas false) db i) := fun H₀ S₀ M S σ H ρ Q ab hp => dhas_core (neg := false) hb ab hp
theorem eo_dnotin {i : Nat} {ty : TE} {db : Den} (hb : EOk K mg W ty db) : EOk K mg W (tDNotIn ty (tVar i)) (d2r (gDHas true) db i) := fun H₀ S₀ M S σ H ρ Q ab hp => dhas_core (neg := true) hb ab hp
end
/-! ### isinstance -/
def tyName : PV → Option String
  | .non => some "NoneType"
  | .bl _ => some "bool"
  | .int _ => some "int"
  | .str _ => some "str"
  | .lst _ => some "list"
  | .tup _ => some "tuple"
  | .ktup _ => some "tuple"
  | .dic false _ _ => some "dict"
  | .dic true _ _ => none
  | .fn _ => none
  | .klst _ => none
def gIsi (T : String) (p : PV) : Option PV := (tyName p).bind fun t => (kitB t T).map .bl
def gIsi2 (T U : String) (p : PV) : Option PV := (tyName p).bind fun t => (kitB t T).bind fun a => (kitB t U).map fun b => .bl (a || b)
section
variable {K : PySem.W.Frag} {mg : Str → Option Value} {W : WX}
theorem Rep.ty {S H : Hp} {p : PV} {v : V} {t : String} (s : Same S H) (r : Rep K S p v) (e : tyName p = some t) : TyX K H v (.type t) := by
  cases r with
  | non => cases e; exact .base .non
  | bl b => cases e; exact .base (.bl b)
  | int i => cases e; exact .base (.int i)
  | str x => cases e; exact .base (.str x)
  | lst h1 h2 => cases e; exact .base (.lst (s _ _ h1))
  | tup h1 h2 => cases e; exact .base (.tup (s _ _ h1))
  | ktup h1 h2 =>
    cases e
    rcases h1 with (h | ⟨o, h⟩) | ⟨o, its, n, h1, h3, _⟩
    · exact .base (.tup (s _ _ h))
    · exact .fTuple (s _ _ h)
    · exact .kTuple h1 h3
  | klst h1 h2 => cases e
  | dK h1 h2 =>
    cases e
    rcases h1 with h1 | ⟨o, h1⟩
    · exact .base (.dK (s _ _ h1))
    · exact .fDict (s _ _ h1)
  | dT h1 h2 => cases e
  | fn a => cases e
theorem eo_isi {T : String} {ta : TE} {da : Den} (ha : EOk K mg W ta da) : EOk K mg W (tCB (rIsi K) (tCons ta (tCons (tC (.ty T)) tNil))) (d1 (gIsi T) da) := fun H₀ S₀ M S σ H ρ Q ab hp =>
  ha.bind (Rl' := rV K) ab hp fun p ρ1 v S1 H1 _ a1 _ r1 hp => by
    cases e : tyName p with
    | none => simp only [gIsi, e] at hp; exact hp.elim
    | some t =>
      cases e2 : kitB t T with
      | none => simp only [gIsi, e, e2, Option.bind_some, Option.map_none] at hp; exact hp.elim
      | some b =>
        simp only [gIsi, e, e2, Option.bind_some, Option.map_some] at hp
        exact ⟨v, .ty T, .type t, .type T, b, rfl, .ty T, r1.ty a1.sub e, kit_ty e2, hp _ S1 H1 a1 (.bl b)⟩
theorem eo_isi2 {T U : String} {ta : TE} {da : Den} (ha : EOk K mg W ta da) : EOk K mg W (tCB (rIsiT K) (tCons ta (tCons (tTup (tCons (tC (.ty T)) (tCons (tC (.ty U)) tNil))) tNil))) (d1 (gIsi2 T U) da) := fun H₀ S₀ M S σ H ρ Q ab hp =>
  ha.bind (Rl' := rV K) ab hp fun p ρ1 v S1 H1 _ a1 _ r1 hp => by
    refine ⟨by show 2 ≤ sizeLine; rw [sizeLine_eq]; decide, fun tp n => ?_⟩
    cases e : tyName p with
    | none => simp only [gIsi2, e] at hp; exact hp.elim
    | some t =>
      cases e2 : kitB t T with
      | none => simp only [gIsi2, e, e2, Option.bind_some, Option.bind_none] at hp; exact hp.elim
      | some a =>
        cases e3 : kitB t U with
        | none => simp only [gIsi2, e, e2, e3, Option.bind_some, Option.map_none] at hp; exact hp.elim
        | some b =>
          simp only [gIsi2, e, e2, e3, Option.bind_some, Option.map_some] at hp
          have st := Step.hid (o := .tup [.ty T, .ty U]) a1.sub n
          refine ⟨v, tp, [.ty T, .ty U], .type t, [.type T, .type U], a || b, rfl, upd_same, .cons (.ty T) (.cons (.ty U) .nil), r1.ty (st.s.trans st.sub) e, ?_, hp _ S1 _ (a1.step st) (.bl _)⟩
          refine kitAny_cons (kit_ty e2) (fun ea => ?_) fun ea => by rw [ea]; rfl
          rw [ea, Bool.false_or]
          exact kitAny_cons (kit_ty e3) (fun eb => by rw [eb]; exact kitAny_nil) fun eb => eb
/-! ### is of a bool -/
def gIsB (neg : Bool) (c : Bool) : PV → Option PV
  | .bl b => some (.bl (if neg then !decide (b = c) else decide (b = c)))
  | .non => some (.bl neg)
  | _ => none
end
def rIsBN (neg : Bool) : R2 := fun x y H Q => ∃ c : Bool, y = .bl c ∧ ((∃ b : Bool, x = .bl b ∧ Q (.bl (if neg then !decide (b = c) else decide (b = c))) H) ∨ (x = .non ∧ Q (.bl neg) H))
section
variable {X : Cx} {W : WX} {fr : Bool} {k : Nat} {pos p p2 p3 apos cpos np : Pos} {e a b : Expr} {es rest : List Expr} {da db dc : Den} {dl : DenL} {x : Str}
theorem op_isBN : OpR X (compareOp .Is) (rIsBN false) := by
  intro pins s σ H x y v u Q I rx ry h
  obtain ⟨c, rfl, h⟩ := h
  rcases h with ⟨b, rfl, q⟩ | ⟨rfl, q⟩
  · exact op_isBl pins s σ H _ _ v u Q I rx ry ⟨b, c, rfl, rfl, q⟩
  · cases (show v = Value.none from rx)
    cases (show u = Value.bool c from ry)
    exact wpAny_is_other rfl (fun z => by cases z) ⟨.bl false, H, I, rfl, q⟩
theorem op_isNotBN : OpR X (compareOp .IsNot) (rIsBN true) := by
  intro pins s σ H x y v u Q I rx ry h
  obtain ⟨c, rfl, h⟩ := h
  rcases h with ⟨b, rfl, q⟩ | ⟨rfl, q⟩
  · exact op_notBl pins s σ H _ _ v u Q I rx ry ⟨b, c, rfl, rfl, q⟩
  · cases (show v = Value.none from rx)
    cases (show u = Value.bool c from ry)
    exact wpAny_isNot_other rfl (fun z => by cases z) ⟨.bl true, H, I, rfl, q⟩
def gIsBB (neg : Bool) : PV → PV → Option PV
  | p, .bl c => gIsB neg c p
  | _, _ => none
theorem v2_isB {K : PySem.W.Frag} {neg : Bool} : V2 K (rIsBN neg) (gIsBB neg) := by
  intro S H x y p q z Q s rx ry e k
  cases q with
  | bl c =>
    cases ry
    cases p with
    | bl b => cases rx; cases e; exact ⟨c, rfl, .inl ⟨b, rfl, k _ S H (Step.refl s) (.bl _)⟩⟩
    | non => cases rx; cases e; exact ⟨c, rfl, .inr ⟨rfl, k _ S H (Step.refl s) (.bl _)⟩⟩
    | _ => cases e
  | _ => cases p <;> cases e
theorem isB_sc {neg : Bool} : ∀ p q z, gIsBB neg p q = some z → z.sc = true := by
  intro p q z e
  cases q <;> cases p <;> first | (cases e; done) | (cases e; rfl)
theorem cr_isB : CmpR X .Is (rIsBN false) (gIsBB false) := ⟨op_isBN, v2_isB, isB_sc⟩
theorem cr_isNotB : CmpR X .IsNot (rIsBN true) (gIsBB true) := ⟨op_isNotBN, v2_isB, isB_sc⟩
theorem de_isi (T : String) (B : Bi X.mg) (ha : DE X W e da) (hmT : X.mg x = none) (hb : bootBuiltins x = some (.type T)) (hg : Gl X "isinstance" := by rfl) (hgT : Gl X x := by rfl) (hn : x ≠ "__name__" := by decide) (hdb : (x == ("__debug__" : Str)) = false := by decide)
    (h1 : starEach [e, .Name x p2] X.env = (false, eval e X.env) :: starEach [.Name x p2] X.env := by rfl) (h2 : starEach [.Name x p2] X.env = (false, eval (.Name x p2) X.env) :: starEach [] X.env := by rfl) (hpl : (backTo pos (starEach [.Name x p2] X.env)).any (·.1) = false := by rfl) :
    DE X W (.Call (.Name "isinstance" p) [e, .Name x p2] [] pos) (d1 (gIsi T) da) :=
  DE.of (pe_callB call_isi hg B.isinstance (by decide +kernel) (pa_cons ha (pa_cons (pe_bltn (v := .ty T) hgT hmT hb rfl hn hdb) pa_nil h2) h1) (by decide) (by decide) h1 hpl) (eo_isi canon_ok)
theorem de_isi2 (T U : String) {y : Str} {j : Nat} {p4 : Pos} (B : Bi X.mg) (ha : DE X W e da) (hmT : X.mg x = none) (hb : bootBuiltins x = some (.type T)) (hmU : X.mg y = none) (hbU : bootBuiltins y = some (.type U)) (hg : Gl X "isinstance" := by rfl) (hgT : Gl X x := by rfl) (hgU : Gl X y := by rfl)
    (hn : x ≠ "__name__" := by decide) (hdb : (x == ("__debug__" : Str)) = false := by decide) (hn2 : y ≠ "__name__" := by decide) (hdb2 : (y == ("__debug__" : Str)) = false := by decide)
    (h1 : starEach [e, .Tuple [.Name x p2, .Name y p3] j p4] X.env = (false, eval e X.env) :: starEach [.Tuple [.Name x p2, .Name y p3] j p4] X.env := by rfl) (h2 : starEach [.Tuple [.Name x p2, .Name y p3] j p4] X.env = (false, eval (.Tuple [.Name x p2, .Name y p3] j p4) X.env) :: starEach [] X.env := by rfl)
    (h3 : starEach [.Name x p2, .Name y p3] X.env = (false, eval (.Name x p2) X.env) :: starEach [.Name y p3] X.env := by rfl) (h4 : starEach [.Name y p3] X.env = (false, eval (.Name y p3) X.env) :: starEach [] X.env := by rfl) (hpl : (backTo pos (starEach [.Tuple [.Name x p2, .Name y p3] j p4] X.env)).any (·.1) = false := by rfl) :
    DE X W (.Call (.Name "isinstance" p) [e, .Tuple [.Name x p2, .Name y p3] j p4] [] pos) (d1 (gIsi2 T U) da) :=
  DE.of (pe_callB call_isiT hg B.isinstance (by decide +kernel) (pa_cons ha (pa_cons (pe_tup (pa_cons (pe_bltn (v := .ty T) hgT hmT hb rfl hn hdb) (pa_cons (pe_bltn (v := .ty U) hgU hmU hbU rfl hn2 hdb2) pa_nil h4) h3)) pa_nil h2) h1) (by decide) (by decide) h1 hpl) (eo_isi2 canon_ok)
/-! ### dicts: syntax -/
theorem de_dgv (i : Nat) (c : Ctx X W k) (ho : PE X (.Name x p) (tVar i)) (hi : DE X W e db) (hs : NoSl e := by intro _ _; rfl) : DE X W (.Subscript (.Name x p) e pos) (d2l gDG i db) := DE.of (pe_dget (by have := c.hu; omega) ho hi hs) (eo_dgv canon_ok)
theorem de_dget2v {f : Expr} (i : Nat) (c : Ctx X W k) (ho : PE X (.Name x np) (tVar i)) (he : DE X W e db) (hf : DE X W f dc) (m : M2 X (.Name x np) "get" apos e f cpos := by exact ⟨rfl, rfl, rfl, rfl⟩) : DE X W (.Call (.Attribute (.Name x np) "get" apos) [e, f] [] cpos) (dGet2v i db dc) :=
  DE.of (pe_dget2 (by have := c.hu; omega) ho he hf m) (eo_dget2v canon_ok canon_ok)
theorem de_din (i : Nat) (c : Ctx X W k) (he : DE X W e db) (ho : PE X (.Name x p) (tVar i)) (h1 : behindInMarks .In (.Name x p) = false := by rfl) : DE X W (.Compare e [.In] [.Name x p] pos) (d2r (gDHas false) db i) := DE.of (pe_cmp (pc_din (by have := c.hu; omega) he ho) h1) (eo_din canon_ok)
theorem de_dnotin (i : Nat) (c : Ctx X W k) (he : DE X W e db) (ho : PE X (.Name x p) (tVar i)) (h1 : behindInMarks .NotIn (.Name x p) = false := by rfl) : DE X W (.Compare e [.NotIn] [.Name x p] pos) (d2r (gDHas true) db i) := DE.of (pe_cmp (pc_dnotin (by have := c.hu; omega) he ho) h1) (eo_dnotin canon_ok)
theorem dt_din (i : Nat) (c : Ctx X W k) (he : DE X W e db) (ho : PE X (.Name x p) (tVar i)) (h1 : behindInMarks .In (.Name x p) = false := by rfl) : DT X W (.Compare e [.In] [.Name x p] pos) (bVal (d2r (gDHas false) db i)) := DT.of (pt_cmp (pc_din (by have := c.hu; omega) he ho) h1) (to_val (eo_din canon_ok))
theorem dt_dnotin (i : Nat) (c : Ctx X W k) (he : DE X W e db) (ho : PE X (.Name x p) (tVar i)) (h1 : behindInMarks .NotIn (.Name x p) = false := by rfl) : DT X W (.Compare e [.NotIn] [.Name x p] pos) (bVal (d2r (gDHas true) db i)) := DT.of (pt_cmp (pc_dnotin (by have := c.hu; omega) he ho) h1) (to_val (eo_dnotin canon_ok))
/-! ### join -/
def gJoin : PV → PV → Option PV
  | .str a, .lst ps => (strs? ps).bind fun ys => if (ys.map (·.length)).sum + ys.length * a.length ≤ 16777216 then some (.str (Txt.join a ys)) else none
  | _, _ => none
def dJoin (da db : Den) : Den := fun ρ => (da ρ).bind fun p ρ1 => match p with
  | .str _ => (db ρ1).bind fun q ρ2 => opt (gJoin p q) ρ2
  | _ => .bad
theorem de_join {o : Expr} (ho : DE X W o da) (he : DE X W e db) (hs : starEach [e] X.env = [(false, eval e X.env)] := by rfl) (hbase : attributeBase o "join" X.env (eval o X.env) = eval o X.env := by rfl) (hline : (apos.endLine == pos.line) = true := by rfl) :
    DE X W (.Call (.Attribute o "join" apos) [e] [] pos) (dJoin da db) := DE.of (pe_join ho he hs hbase hline) fun H₀ S₀ M S σ H ρ Q ab hp =>
  canon_ok.bind (Rl := rV X.K) (Rl' := rV X.K) ab hp fun p ρ1 v S1 H1 _ a1 _ r1 hp => by
    cases p with
    | str a =>
      cases r1
      refine ⟨⟨a, rfl⟩, canon_ok.bind (Rl := rV X.K) (Rl' := rV X.K) a1 hp fun q ρ2 y S2 H2 _ a2 s2 r2 hp => ?_⟩
      cases q with
      | lst ps =>
        cases e1 : strs? ps with
        | none => simp only [gJoin, e1] at hp; exact hp.elim
        | some ys =>
          by_cases hz : (ys.map (·.length)).sum + ys.length * a.length ≤ 16777216
          · simp only [gJoin, e1, Option.bind_some, if_pos hz] at hp
            cases r2 with
            | lst h1 h2 =>
              rw [h2.strs e1] at h1
              exact ⟨a, _, ys, rfl, rfl, .inl (.inl (.inl (a2.sub _ _ h1))), hz, hp _ S2 H2 a2 (.str _)⟩
          · simp only [gJoin, e1, Option.bind_some, if_neg hz] at hp; exact hp.elim
      | _ => exact hp.elim
    | _ => exact hp.elim
/-! ### list(x), tuple(x) -/
def gListOf : List PV → Option PV
  | [.lst ps] => some (.lst ps)
  | [.tup ps] => some (.lst ps)
  | [.ktup ps] => some (.lst ps)
  | _ => none
theorem vn_listOf {K : PySem.W.Frag} : VNF K (fun xs H Q => ∃ p ys, xs = [.ref p] ∧ (SqL K H p ys ∨ SqT K H p ys) ∧ ∀ l, H l = none → Q (.ref l) (upd H l (.lst ys))) gListOf := by
  intro S H xs ps z Q s rx e k
  unfold gListOf at e
  split at e
  · cases rx with
    | cons r1 r2 =>
      cases r2; cases e
      cases r1 with
      | lst h1 h2 => exact ⟨_, _, rfl, .inl (.inl (.inl (s _ _ h1))), fun l n => k l (.lst _) n h2⟩
  · cases rx with
    | cons r1 r2 =>
      cases r2; cases e
      cases r1 with
      | tup h1 h2 => exact ⟨_, _, rfl, .inr (.inl (.inl (s _ _ h1))), fun l n => k l (.lst _) n h2⟩
  · cases rx with
    | cons r1 r2 =>
      cases r2; cases e
      cases r1 with
      | ktup h1 h2 => exact ⟨_, _, rfl, .inr (Same.tupK s h1), fun l n => k l (.lst _) n h2⟩
  · cases e
theorem df_listOf (B : Bi X.mg) (ha : DA X W (e :: es) dl) (hg : Gl X "list" := by rfl) (he : starEach (e :: es) X.env = (false, eval e X.env) :: starEach es X.env := by rfl) (hpl : (backTo pos (starEach es X.env)).any (·.1) = false := by rfl) :
    DF X W (.Call (.Name "list" p) (e :: es) [] pos) (dN gListOf dl) := DF.of (pe_callTy call_list_of hg B.list (by decide +kernel) ha (by decide) (by decide) he hpl) (fo_n canon_ok vn_listOf)
end
end PL

set_option Elab.async false
set_option linter.all false
set_option maxRecDepth 100000
set_option maxHeartbeats 4000000
namespace PL
open PySem PySem.Spec L2
open PyProof.Rows hiding St
set_option autoImplicit false

/-! ### displays of dicts -/
def dPairs : List (Den × Den) → Env → Option (List (PV × PV) × Env)
  | [], ρ => some ([], ρ)
  | (dk, dv) :: r, ρ => match dk ρ with
    | .ok p ρ1 => match dv ρ1 with
      | .ok q ρ2 => (match dPairs r ρ2 with
        | some (ps, ρ3) => some ((p, q) :: ps, ρ3)
        | none => none)
      | _ => none
    | _ => none
def nodupK : List PV → Bool
  | [] => true
  | p :: ps => (key? p).isSome && !ps.any (fun q => kEq q p) && nodupK ps
def dDisp (prs : List (Den × Den)) : Den := fun ρ => match dPairs prs (lockE [] ρ) with
  | some (ps, ρ2) => if noOw ρ2 && nodupK (ps.map (·.1)) && decide (ps.length ≤ 15) then .ok (.dic false (ps.map (·.1)) (ps.map (·.2))) (backE [] ρ ρ2) else .bad
  | none => .bad
section
variable {K : PySem.W.Frag} {mg : Str → Option Value} {W : WX}
theorem mergeK_nodup : ∀ (more acc : List (Key × V)), nodupK (more.map fun p => keyPV p.1) = true → (∀ p ∈ more, ∀ q ∈ acc, q.1 ≠ p.1) → mergeK acc more = acc ++ more
  | [], acc, _, _ => by simp [mergeK]
  | p :: r, acc, h, h2 => by
    have h : ((key? (keyPV p.1)).isSome && !(r.map fun q => keyPV q.1).any (fun q => kEq q (keyPV p.1)) && nodupK (r.map fun q => keyPV q.1)) = true := h
    simp only [Bool.and_eq_true, Bool.not_eq_true'] at h
    obtain ⟨⟨_, h3⟩, h4⟩ := h
    have e : putK acc p.1 p.2 = acc ++ [(p.1, p.2)] := by
      unfold putK
      rw [if_neg]
      intro z
      obtain ⟨q, hq, e⟩ := List.any_eq_true.mp z
      exact h2 p List.mem_cons_self q hq (of_decide_eq_true e)
    show mergeK (putK acc p.1 p.2) r = _
    rw [e, mergeK_nodup r _ h4 fun q hq w hw => ?_, List.append_assoc]
    · rfl
    · rcases List.mem_append.mp hw with hw | hw
      · exact h2 q (List.mem_cons_of_mem _ hq) w hw
      · rw [List.mem_singleton.mp hw]
        intro z
        have := List.any_eq_false.mp h3 (keyPV q.1) (List.mem_map.mpr ⟨q, hq, rfl⟩)
        apply this
        unfold kEq
        rw [kk?_key, kk?_key]
        have z' : p.1 = q.1 := z
        simp [z']
inductive POk (K : PySem.W.Frag) (mg : Str → Option Value) (W : WX) : List (TE × TE) → List (Den × Den) → Prop
  | nil : POk K mg W [] []
  | cons {tk tv : TE} {dk dv : Den} {r : List (TE × TE)} {dr : List (Den × Den)} : EOk K mg W tk dk → EOk K mg W tv dv → POk K mg W r dr → POk K mg W ((tk, tv) :: r) ((dk, dv) :: dr)
theorem pairs_run {trs : List (TE × TE)} {prs : List (Den × Den)} (h : POk K mg W trs prs) : ∀ {H₀ S₀ : Hp} {M : Addr → Prop} {S H : Hp} {σ : L2.St} {ρ ρ2 : Env} {ps : List (PV × PV)} {Q : List (V × V) → Hp → Prop}, Abs K H₀ S₀ M S σ H ρ → dPairs prs ρ = some (ps, ρ2) →
    (∀ vs S' H', Abs K H₀ S₀ M S' σ H' ρ2 → Same S S' → RepL K S' (ps.map (·.1)) (vs.map (·.1)) → RepL K S' (ps.map (·.2)) (vs.map (·.2)) → Q vs H') → tPairs trs σ H Q := by
  induction h with
  | nil =>
    intro H₀ S₀ M S H σ ρ ρ2 ps Q ab e hq
    cases e
    exact hq [] S H ab (Same.refl _) .nil .nil
  | @cons tk tv dk dv r dr h1 h2 _ ih =>
    intro H₀ S₀ M S H σ ρ ρ2 ps Q ab e hq
    unfold dPairs at e
    cases e1 : dk ρ with
    | bad => simp only [e1] at e; cases e
    | exc x ρ1 => simp only [e1] at e; cases e
    | ok p ρ1 =>
      simp only [e1] at e
      cases e2 : dv ρ1 with
      | bad => simp only [e2] at e; cases e
      | exc x ρ1 => simp only [e2] at e; cases e
      | ok q ρ3 =>
        simp only [e2] at e
        cases e3 : dPairs dr ρ3 with
        | none => simp only [e3] at e; cases e
        | some pr =>
          obtain ⟨ps', ρ4⟩ := pr
          simp only [e3] at e
          cases e
          refine h1 H₀ S M S σ H ρ _ ab.rebase ?_
          rw [e1]
          intro v S1 H1 a1 r1
          refine h2 H₀ S1 M S1 σ H1 ρ1 _ a1.rebase ?_
          rw [e2]
          intro u S2 H2 a2 r2
          have a2' := ab.unbase (a1.unbase a2)
          refine ih (ab.unbase (a1.unbase a2)) e3 fun vs S3 H3 a3 s3 r3 r4 => hq ((v, u) :: vs) S3 H3 a3 ((a1.base.trans a2.base).trans s3) (.cons ?_ r3) (.cons ?_ r4)
          · exact (Rep.up (a2.base.trans s3) r1)
          · exact Rep.up s3 r2
theorem nodupK_keys : ∀ {ps : List PV}, nodupK ps = true → ∃ ks : List Key, ps = ks.map keyPV
  | [], _ => ⟨[], rfl⟩
  | p :: ps, h => by
    have h : ((key? p).isSome && !ps.any (fun q => kEq q p) && nodupK ps) = true := h
    simp only [Bool.and_eq_true] at h
    obtain ⟨ks, e⟩ := nodupK_keys h.2
    obtain ⟨k, hk⟩ := Option.isSome_iff_exists.mp h.1.1
    exact ⟨k :: ks, by rw [key?_some hk, e]; rfl⟩
theorem fo_disp {trs : List (TE × TE)} {prs : List (Den × Den)} (h : POk K mg (fun _ _ _ _ => False) trs prs) : FOk K mg W (tDisp trs) (dDisp prs) := fun H₀ S₀ M S σ H ρ Q ab hp => by
  unfold dDisp at hp
  cases e : dPairs prs (lockE [] ρ) with
  | none => rw [e] at hp; exact hp.elim
  | some pr =>
    obtain ⟨ps, ρ2⟩ := pr
    rw [e] at hp
    by_cases hc : (noOw ρ2 && nodupK (ps.map (·.1)) && decide (ps.length ≤ 15)) = true
    · simp only [if_pos hc] at hp
      simp only [Bool.and_eq_true] at hc
      obtain ⟨⟨hc0, hc1⟩, hc2⟩ := hc
      intro D hD
      have ab2 := ab.step (Step.hid (o := .dK []) ab.sub hD)
      have aE := ab2.enter []
      have nL : ¬ Lent σ ρ D := fun ⟨i, s, p, h1, h2, h3⟩ => by
        obtain ⟨c, o, k1, _, _, _, k5, _⟩ := ab.own i s p h1 h2
        rw [h3] at k1
        cases k1
        rw [hD] at k5; cases k5
      have sD : S D = none := Same.free ab.sub hD
      refine pairs_run h aE e fun vs S' H' a1 s1 r1 r2 => ?_
      have kD : H' D = some (.dK []) := a1.keep D _ upd_same nL
      have sD' : S' D = none := by
        cases q : S' D with
        | none => rfl
        | some o =>
          rcases a1.grow D o q with z | z | ⟨us, z⟩
          · rw [sD] at z; cases z
          · rw [upd_same] at z; cases z
          · subst z
            have z := (a1.sub _ _ q).symm.trans kD
            cases z
      obtain ⟨ks, ek⟩ := nodupK_keys hc1
      rw [ek] at r1
      have ev := r1.keyVs
      have hl : ks.length = vs.length := by
        have := congrArg List.length ev
        simpa using this.symm
      have e3 : ∃ kvs : List (Key × V), vs = kvs.map (fun kv => (kV kv.1, kv.2)) ∧ kvs.map (·.1) = ks ∧ kvs.map (·.2) = vs.map (·.2) := by
        clear r1 r2 ek a1 kD sD' s1
        induction ks generalizing vs with
        | nil => cases vs with
          | nil => exact ⟨[], rfl, rfl, rfl⟩
          | cons v vs => cases hl
        | cons k ks ih => cases vs with
          | nil => cases hl
          | cons v vs =>
            rw [List.map_cons, List.map_cons] at ev
            injection ev with e1 e2
            obtain ⟨kvs, z1, z2, z3⟩ := ih vs e2 (by simpa using hl)
            refine ⟨(k, v.2) :: kvs, ?_, by rw [List.map_cons, z2], by rw [List.map_cons, z3]; rfl⟩
            rw [List.map_cons, ← z1]
            obtain ⟨v1, v2⟩ := v
            have e1 : v1 = kV k := e1
            rw [e1]
      obtain ⟨kvs, z1, z2, z3⟩ := e3
      have hlk : ps.length = kvs.length := by
        have h1 := congrArg List.length ek
        have h2 := congrArg List.length z2
        simp only [List.length_map] at h1 h2
        omega
      refine ⟨kD, kvs, z1, by rw [← hlk]; exact of_decide_eq_true hc2, ?_⟩
      have em : mergeK [] kvs = kvs := by
        rw [mergeK_nodup kvs [] ?_ (fun _ _ q hq => nomatch hq)]
        · rfl
        · have : (kvs.map fun p => keyPV p.1) = ps.map (·.1) := by
            rw [ek, ← z2, List.map_map]
            rfl
          rw [this]; exact hc1
      rw [em]
      have aX := ab2.exit (own := []) a1
      have hn : ∀ (j : Nat) s q, (backE [] ρ ρ2)[j]? = some s → s.own? = some q → σ[j]? ≠ some (some (.ref D)) := fun j s q ej es z => by
        obtain ⟨c, o, k1, k2, k3, k4, k5, k6⟩ := aX.own j s q ej es
        rw [z] at k1
        cases k1
        rcases backE_get ej (by intro w; subst w; cases es) with ⟨_, q', hq, _⟩ | ⟨h1, t, t', h2, h3, h4⟩
        · subst hq; cases es
        · have ht : ∃ p, t.own? = some p := by
            cases t <;> cases t' <;> simp [Sl.back] at h4 <;> subst h4 <;> first | (cases es; done) | exact ⟨_, rfl⟩
          obtain ⟨p, hp'⟩ := ht
          exact nL ⟨j, t, p, h2, hp', z⟩
      have aF := aX.other (o := .dK kvs) (ab.none0 hD) sD' hn
      refine hp (.ref D) S' _ aF ⟨D, .dK kvs, rfl, ab.none0 hD, sD', upd_same, ⟨?_, ?_⟩, hn⟩
      · rw [ek, ← z2, List.map_map]
        rfl
      · rw [z3]; exact r2
    · simp only [if_neg hc] at hp
      exact hp.elim
end
section
variable {X : Cx} {W : WX} {pos : Pos}
theorem Ctx.wf {k : Nat} (c : Ctx X W k) : Ctx X (fun _ _ _ _ => False) k := ⟨c.calm, c.nd, c.room, takes0⟩
/-- the pairs of a display -/
structure DPs (X : Cx) (W : WX) (pos : Pos) (keys : List (Option Expr)) (values : List Expr) (prs : List (Den × Den)) : Prop where
  ex : ∃ trs, PPs X pos keys values trs ∧ POk X.K X.mg (fun _ _ _ _ => False) trs prs
theorem dps_nil : DPs X W pos [] [] [] := ⟨⟨[], pps_nil, .nil⟩⟩
theorem dps_cons {k v : Expr} {ks : List (Option Expr)} {vs : List Expr} {dk dv : Den} {prs : List (Den × Den)} (hk : DE X (fun _ _ _ _ => False) k dk) (hv : DE X (fun _ _ _ _ => False) v dv) (h : DPs X W pos ks vs prs) : DPs X W pos (some k :: ks) (v :: vs) ((dk, dv) :: prs) := by
  obtain ⟨trs, h1, h2⟩ := h.ex
  exact ⟨⟨_, pps_cons hk hv h1, .cons canon_ok canon_ok h2⟩⟩
theorem df_disp {keys : List (Option Expr)} {values : List Expr} {prs : List (Den × Den)} (h : DPs X W pos keys values prs) (hall : keys.all (·.isSome) = true := by rfl) (hl : keys.length = values.length := by rfl) (h0 : keys ≠ [] := by intro z; cases z) (h15 : keys.length ≤ 15 := by decide) :
    DF X W (.Dict keys values pos) (dDisp prs) := by
  obtain ⟨trs, h1, h2⟩ := h.ex
  exact DF.of (pe_disp h1 hall hl h0 h15) (fo_disp h2)
theorem df_dnewK : DF X W (.Dict [] [] pos) (dC (.dic false [] [])) := DF.of pe_dnewK fun H₀ S₀ M S σ H ρ Q ab hp p n => hp _ S _ (ab.fresh (p := .dic false [] []) (o := .dK []) n ⟨rfl, .nil⟩).1 (ab.fresh (p := .dic false [] []) (o := .dK []) n ⟨rfl, .nil⟩).2
theorem df_dnewT : DF X W (.Dict [] [] pos) (dC (.dic true [] [])) := DF.of pe_dnewT fun H₀ S₀ M S σ H ρ Q ab hp p n => hp _ S _ (ab.fresh (p := .dic true [] []) (o := .dT []) n ⟨rfl, .nil⟩).1 (ab.fresh (p := .dic true [] []) (o := .dT []) n ⟨rfl, .nil⟩).2
end
end PL

set_option Elab.async false
set_option linter.all false
set_option maxRecDepth 100000
set_option maxHeartbeats 4000000
namespace PL
open PySem PySem.Spec L2
open PyProof.Rows hiding St
set_option autoImplicit false

/-! ### defs of the head -/
abbrev FnP (K : PySem.W.Frag) (x qual : Str) (st : Stmt) (f : Addr) (fd : FuncData) : Prop := FunD K x qual (defArgs st) (defBody st) (defScope st) [] [] f fd
abbrev Bnd (x qual : Str) (st : Stmt) (ps : List Str) : Prop := ∀ (kV doc pm : Value) (an : Option Addr) (cdv ct : Value) (us : List Value), us.length = ps.length → bindArgs (PySem.W.fnOf x qual (defArgs st) (defBody st) (defScope st) .none kV doc pm an cdv ct) ⟨us, []⟩ = pure (ps.zip us)
theorem fn_okD {P : Program} {w : World} {K : PySem.W.Frag} {mg : Str → Option Value} {base : Heap} {x qual : Str} {st : Stmt} {f : Addr} {fd : FuncData} {N ps : List Str} {k : Nat} {io fr : Bool} {d : DenS} (F : FnP K x qual st f fd) (S : FnScope N ps (defScope st))
    (hl : ps.length ≤ N.length)
    (hbody : ∀ (cdv : Value) (A : Around) (outer : List PySem.Env) (s : Shared) (H : Hp) (E : XK), Ctx (cxOf (L2.CX P w) P w K mg base N qual (defScope st) f cdv A outer s H E) (fun cls dd _ H => E cls dd H) k → Po (cxOf (L2.CX P w) P w K mg base N qual (defScope st) f cdv A outer s H E) →
      DSs (cxOf (L2.CX P w) P w K mg base N qual (defScope st) f cdv A outer s H E) (fun cls dd _ H => E cls dd H) fr (defBody st) d) :
    FnOk P w K mg base (L2.CX P w) (k + 1) f fd ps (spD K mg io fr ps.length (runD io fr ps.length N.length d)) := by
  refine F.ok S (fun vs H Q E h => h.1) fun cdv A outer s H vs Q E hr h => ⟨_, hbody cdv A outer s H E ⟨rfl, S.nd, hr, takes_of rfl rfl rfl rfl⟩ (passes_of rfl), ?_⟩
  exact body_ok canonS_ok hl h
theorem fd_okD {P : Program} {w : World} {K : PySem.W.Frag} {mg : Str → Option Value} {base : Heap} {x qual : Str} {st : Stmt} {f : Addr} {fd : FuncData} {N ps : List Str} {k : Nat} {io fr : Bool} {d : DenS} (F : FnP K x qual st f fd) (hm : mg x = some (.ref f)) (S : FnScope N ps (defScope st))
    (hb : Bnd x qual st ps) (hl : ps.length ≤ N.length)
    (hbody : ∀ (cdv : Value) (A : Around) (outer : List PySem.Env) (s : Shared) (H : Hp) (E : XK), Ctx (cxOf (L2.CX P w) P w K mg base N qual (defScope st) f cdv A outer s H E) (fun cls dd _ H => E cls dd H) k → Po (cxOf (L2.CX P w) P w K mg base N qual (defScope st) f cdv A outer s H E) →
      DSs (cxOf (L2.CX P w) P w K mg base N qual (defScope st) f cdv A outer s H E) (fun cls dd _ H => E cls dd H) fr (defBody st) d) :
    Fd P w K mg base x (k + 1) io fr ps.length (runD io fr ps.length N.length d) := by
  refine ⟨⟨f, fd, ps, fn_okD F S hl hbody, hm, F.kp, F.bindsN hb⟩, fun qs h => ?_⟩
  unfold runD at h
  by_cases e : qs.length = ps.length
  · exact e
  · rw [if_neg e] at h
    exact absurd rfl h
/-- an error class whose __init__ calls its base's and sets the field -/
abbrev rStr : R2 := fun x y H Q => ∃ i j, x = .str i ∧ y = .str j ∧ i.length + j.length ≤ sizeLine ∧ Q (.str (i ++ j)) H
def tIni (K : PySem.W.Frag) (txt fld : Str) : TS := tSeq (tDrop (tVeI K (tCons (tVar 0) (tCons (tOp rStr (tC (.str txt)) (tVar 1)) tNil)))) (tOst K fld (tVar 0) (tVar 1))
theorem ec_ok {P : Program} {w : World} {K : PySem.W.Frag} {mg : Str → Option Value} {base : Heap} {x fld txt p1 p2 qual : Str} {st : Stmt} {fd : FuncData} (E : EcK K x fld) (hm : mg x = some (.ref (He.ga K x)))
    (F : FnP K "__init__" qual st (He.ma K (He.ga K x) "__init__") fd) (S : FnScope [p1, p2] [p1, p2] (defScope st)) (hb : Bnd "__init__" qual st [p1, p2]) (ht : txt.length ≤ 1000)
    (hbody : ∀ (cdv : Value) (A : Around) (outer : List PySem.Env) (s : Shared) (H : Hp) (E : XK), PSs (cxOf (L2.CX P w) P w K mg base [p1, p2] qual (defScope st) (He.ma K (He.ga K x) "__init__") cdv A outer s H E) (defBody st) (tIni K txt fld)) :
    Ec P w K mg base x fld := by
  refine ⟨E, hm, fd, [p1, p2], ?_, F.bindsN hb⟩
  refine F.ok S (fun vs H Q E h => ?_) fun cdv A outer s H vs Q E hr h => ⟨_, hbody cdv A outer s H E, ?_⟩
  · obtain ⟨a, C, z, e, _⟩ := h
    rw [e]; rfl
  · obtain ⟨a, C, z, rfl, hz, O, hf, ea, hq⟩ := h
    refine ⟨_, rfl, _, rfl, txt, z, rfl, rfl, ?_, a, C, [.str (txt ++ z)], rfl, by simp, O, ea, ?_⟩
    · rw [sizeLine_eq]; omega
    · refine ⟨.str z, rfl, .ref a, rfl, a, C, rfl, O, hf, .inl ⟨ea, fun dx hd hne => hq dx hd hne⟩⟩

/-! ### the law's def -/
def spTop (K : PySem.W.Frag) : Sp := fun vs H Q _ => ∃ (a : Addr) (ns : List Int), vs = [.ref a] ∧ ns.length ≤ 63 ∧ SqL K H a (ns.map V.int) ∧ ∀ H', Q (.bl true) H'
theorem repInts {K : PySem.W.Frag} {S : Hp} : ∀ ns : List Int, RepL K S (ns.map PV.int) (ns.map V.int)
  | [] => .nil
  | n :: ns => .cons (.int n) (repInts ns)
theorem fd_top {P : Program} {w : World} {K : PySem.W.Frag} {mg : Str → Option Value} {base : Heap} {k : Nat} {F : List PV → FR} {f : Addr} {fd : FuncData} {ps : List Str} (h : FnOk P w K mg base (L2.CX P w) k f fd ps (spD K mg false false 1 F)) (hF : ∀ ns : List Int, ns.length ≤ 63 → ∃ q, F [.klst (ns.map .int)] = .ok (.bl true) q) :
    FnOk P w K mg base (L2.CX P w) k f fd ps (spTop K) := h.imp fun vs H Q E q => by
  obtain ⟨a, ns, rfl, hl, hs, hq⟩ := q
  obtain ⟨q, e⟩ := hF ns hl
  refine ⟨rfl, H, fun _ => False, [.klst (ns.map .int)], fun _ _ z => z.elim, ⟨rfl, Same.refl _, Same.refl _, fun _ _ e => .inl e, fun _ _ e _ => e, fun b o e => ⟨o, e⟩, fun i p e => ?_, fun i s p e es => ?_, fun i j s t p q c e es => ?_⟩, (fun z => by cases z), ?_⟩
  · cases i with
    | zero =>
      cases e
      exact ⟨.ref a, rfl, .klst hs (repInts ns)⟩
    | succ i => simp [argSl] at e
  · cases i with
    | zero => cases e; cases es
    | succ i => simp [argSl] at e
  · cases i with
    | zero => cases e; cases es
    | succ i => simp [argSl] at e
  · rw [e]
    intro v S' H' _ r
    have r : Rep K S' (.bl true) v := by simpa [RetRep] using r
    cases r
    exact hq H'
end PL
namespace PL
open PySem PySem.Spec L2
open PyProof.Rows hiding St
set_option autoImplicit false
/-! ### except X as n: return n.field -/
theorem clause {X : Cx} {n x fld : Str} {i : Nat} {q q' p1 p2 p3 : Pos} {hs : List ExceptHandler} {cl : List Clause} (E : Ec X.prog X.w X.K X.mg X.base x fld) (h : Clauses X n hs cl) (hg : Gl X x := by rfl) (hN : X.N[i]? = some n := by rfl) (hv : Vis X.env.scope n := by first | exact Or.inl rfl | exact Or.inr (Or.inl rfl) | exact Or.inr (Or.inr rfl))
    (hb : attributeBase (.Name n p1) fld X.env (eval (.Name n p1) X.env) = eval (.Name n p1) X.env := by rfl) (hd : (n == ("__debug__" : Str)) = false := by decide) (hcd : (n == ("__classdict__" : Str)) = false := by decide) (hdb : (x == ("__debug__" : Str)) = false := by decide) :
    Clauses X n (.ExceptHandler (some (.Name x q)) (some n) [.Return (some (.Attribute (.Name n p1) fld p2)) p3] q' :: hs) ((.ref (He.ga X.K x), fun a cls d => tRet (tXf a cls d (He.ga X.K x) fld (tVar i))) :: cl) :=
  .cons ⟨hg, hdb, .inl E.at_⟩ (fun a ob cls d pn hz hf => pss_one (ps_ret (pe_xf E.k.xf E.k.fld hz hf (pe_var hN hv hd hcd) hb))) h
/-- nothing is promised -/
theorem dss_bad {X : Cx} {W : WX} {fr : Bool} {sts : List Stmt} : DSs X W fr sts (fun _ => .bad) := ⟨fun pins s σ H D I q => by
  obtain ⟨_, _, _, _, _, _, z⟩ := q
  exact z.elim⟩
end PL

set_option Elab.async false
set_option linter.all false
set_option maxRecDepth 100000
set_option maxHeartbeats 4000000
namespace PL
open PySem PySem.Spec L2 He
set_option autoImplicit false
/-! ### what is looked at behind the top: the statics too -/
def frY (g : Addr → Option Obj) (n : Nat) : PySem.W.Frag := frG g [cStatics] ++ frT g (asD g n)
theorem frY_in {n : Nat} {h : Heap} : (frY h.get? n).In h := fun a o e => by
  have m := lookup_mem (show (frG h.get? [cStatics] ++ frT h.get? (asD h.get? n)).lookup a = some o from e)
  rcases List.mem_append.mp m with m | m
  · exact frG_mem m
  · exact frG_mem (List.mem_filter.mp m).1
abbrev AlY : Type := AlT × Bool
def obsY (n : Nat) (fa : List Fa) (fn : List DefD) (ex : PySem.W.Frag → Bool) (g : Addr → Option Obj) : AlY := (obsT fa fn [] (frY g n), ex (frY g n))
structure SaysY (fa : List Fa) (fn : List DefD) (ex : PySem.W.Frag → Bool) (w : World) (K : PySem.W.Frag) : Prop where
  t : SaysT fa fn [] w K
  more : ex K = true
def hookY (n : Nat) (fa : List Fa) (fn : List DefD) (ex : PySem.W.Frag → Bool) : PySem.W.Hook where
  α := AlY
  obs := fun s => obsY n fa fn ex s.heap.get?
  val := fun w => (valT fn [] w, true)
  says := fun w h => ∃ K : PySem.W.Frag, K.In h ∧ SaysY fa fn ex w K
  of := fun _ _ e => ⟨_, frY_in, congrArg (fun z : AlY => z.1) e, congrArg (fun z : AlY => z.2) e⟩
  keeps := fun _ _ _ ⟨K, hK, c⟩ k => ⟨K, PySem.W.Frag.In.keeps hK k, c⟩
theorem obsY_eq {n : Nat} {fa : List Fa} {fn : List DefD} {ex : PySem.W.Frag → Bool} {g : Addr → Option Obj} {s : Shared} (h : ∀ a, g a = s.heap.get? a) : obsY n fa fn ex g = (hookY n fa fn ex).obs s := by
  have e : g = s.heap.get? := funext h
  rw [e] <;> rfl
/-- some world's -/
def CXA (P : Program) : CXT := fun outer H s E u s' => ∃ w, L2.CX P w outer H s E u s'
theorem FnOk.anyW {P : Program} {w : World} {K : PySem.W.Frag} {mg : Str → Option Value} {base : Heap} {k : Nat} {f : Addr} {fd : FuncData} {ps : List Str} {sp : Sp} (F : FnOk P w K mg base (L2.CX P w) k f fd ps sp) : FnOk P w K mg base (CXA P) k f fd ps sp :=
  ⟨F.len, fun A outer s H args us vs Q E hr he hb hv hs => codeAny_mono (F.run A outer s H args us vs Q E hr he hb hv hs) fun r s' z => by
    cases r with
    | ok fin => cases fin <;> exact z
    | error e => exact ⟨w, z⟩⟩
theorem CXA.none {P : Program} (H : Hp) (s : Shared) (e : Value) (s' : Shared) (h : CXA P [] H s (fun _ _ _ => False) e s') : False := by
  obtain ⟨w, _, _, _, _, _, _, _, _, _, _, _, _, z⟩ := h
  exact z
end PL

set_option Elab.async false
set_option linter.all false
set_option maxRecDepth 100000
set_option maxHeartbeats 4000000
namespace PL
open PySem PySem.Spec L2
set_option autoImplicit false
/-! ### reading denotations: rules for simp -/
section
variable {p q z : PV} {ρ ρ1 : Env} {i j : Nat} {da db dc : Den} {dt du : DenB} {dl dr : DenL} {dla : DenO} {a b : DenS} {g g' : PV → PV → Option PV} {F : List PV → FR} {s : Sl} {r : Env} {own : List Nat} {dg : DenG} {dh : DenO} {T : String}
@[simp] theorem ap_dC : dC p ρ = .ok p ρ := id rfl
@[simp] theorem ap_dVar : dVar i ρ = match ρ[i]? with
  | some (.sh p) => .ok p ρ
  | some (.ow p) => .ok p (ρ.set i (.sh p))
  | _ => .bad := id rfl
@[simp] theorem ap_slot : slot ρ i = match ρ[i]? with
  | some s => s.pv?
  | none => none := by unfold slot; cases ρ[i]? <;> rfl
@[simp] theorem pv_sh : Sl.pv? (.sh p) = some p := id rfl
@[simp] theorem pv_ow : Sl.pv? (.ow p) = some p := id rfl
@[simp] theorem pv_io : Sl.pv? (.io p) = some p := id rfl
@[simp] theorem ap_own : ownAt ρ i = match ρ[i]? with
  | some (.ow p) => some (.ow p, p)
  | some (.io p) => some (.io p, p)
  | _ => none := id rfl
@[simp] theorem with_ow : Sl.with (.ow p) q = .ow q := id rfl
@[simp] theorem with_io : Sl.with (.io p) q = .io q := id rfl
@[simp] theorem ap_d1 {g : PV → Option PV} : d1 g da ρ = (da ρ).bind fun p ρ1 => opt (g p) ρ1 := id rfl
@[simp] theorem ap_d2 : d2 g da db ρ = (da ρ).bind fun p ρ1 => (db ρ1).bind fun q ρ2 => opt (g p q) ρ2 := id rfl
@[simp] theorem ap_d2l : d2l g i db ρ = match slot ρ i with
  | none => .bad
  | some _ => (db ρ).bind fun q ρ1 => match slot ρ1 i with
    | none => .bad
    | some p => opt (g p q) ρ1 := id rfl
@[simp] theorem ap_d2r : d2r g da i ρ = (da ρ).bind fun p ρ1 => match slot ρ1 i with
    | none => .bad
    | some q => opt (g p q) ρ1 := id rfl
@[simp] theorem ap_d1v {g : PV → Option PV} : d1v g i ρ = match slot ρ i with
    | some p => opt (g p) ρ
    | _ => .bad := id rfl
@[simp] theorem ap_dNil : dNil ρ = .ok [] ρ := id rfl
@[simp] theorem ap_dCons : dCons da dl ρ = (da ρ).bind fun p ρ1 => (dl ρ1).bind fun ps ρ2 => .ok (p :: ps) ρ2 := id rfl
@[simp] theorem ap_dN {g : List PV → Option PV} : dN g dl ρ = (dl ρ).bind fun ps ρ1 => opt (g ps) ρ1 := id rfl
@[simp] theorem ap_dIf : dIf dt da db ρ = (dt ρ).bind fun b ρ1 => if b = true then da ρ1 else db ρ1 := id rfl
@[simp] theorem ap_bAnd : bAnd dt du ρ = (dt ρ).bind fun b ρ1 => if b = true then du ρ1 else .ok false ρ1 := id rfl
@[simp] theorem ap_bOr : bOr dt du ρ = (dt ρ).bind fun b ρ1 => if b = true then .ok true ρ1 else du ρ1 := id rfl
@[simp] theorem ap_bNot : bNot dt ρ = (dt ρ).bind fun b ρ1 => .ok (!b) ρ1 := id rfl
@[simp] theorem ap_bVal : bVal da ρ = (da ρ).bind fun p ρ1 => opt p.bool? ρ1 := id rfl
@[simp] theorem ap_bool (b : Bool) : PV.bool? (.bl b) = some b := id rfl
@[simp] theorem ap_bTru : bTru da ρ = (da ρ).bind fun p ρ1 => opt (truth p) ρ1 := id rfl
@[simp] theorem ap_bTruV : bTruV i ρ = match slot ρ i with
  | some p => opt (truth p) ρ
  | none => .bad := id rfl
@[simp] theorem ap_bYes : bYes ρ = .ok true ρ := id rfl
@[simp] theorem ap_dAndT : dAndT da db ρ = (da ρ).bind fun p ρ1 => match truth p with
  | none => .bad
  | some b => if b = true then db ρ1 else .ok p ρ1 := id rfl
@[simp] theorem ap_dOrT : dOrT da db ρ = (da ρ).bind fun p ρ1 => match truth p with
  | none => .bad
  | some b => if b = true then .ok p ρ1 else db ρ1 := id rfl
@[simp] theorem ap_dNotT : dNotT da ρ = (da ρ).bind fun p ρ1 => opt ((truth p).map fun b => .bl (!b)) ρ1 := id rfl
@[simp] theorem ap_dChain : dChain g g' da db dc ρ = (da ρ).bind fun p ρ1 => (db ρ1).bind fun q ρ2 => match g p q with
  | some (.bl true) => (dc ρ2).bind fun r ρ3 => opt (g' q r) ρ3
  | some (.bl false) => .ok (.bl false) ρ2
  | _ => .bad := id rfl
@[simp] theorem ap_dLst : dLst dl ρ = (dl ρ).bind fun ps ρ1 => if ps.length ≤ sizeLine then .ok (.lst ps) ρ1 else .bad := id rfl
@[simp] theorem ap_dTup : dTup dl ρ = (dl ρ).bind fun ps ρ1 => if ps.length ≤ sizeLine then .ok (.tup ps) ρ1 else .bad := id rfl
@[simp] theorem ap_oNone : oNone ρ = .ok none ρ := id rfl
@[simp] theorem ap_dMut {g : PV → List PV → Option (PV × PV)} : dMut T g i dl ρ = match ownAt ρ i with
  | none => .bad
  | some (_, p0) => if isT T p0 = true then (dl ρ).bind fun ps ρ1 => match ownAt ρ1 i with
    | none => .bad
    | some (s, p) => match g p ps with
      | none => .bad
      | some (q, z) => .ok z (ρ1.set i (s.with q))
    else .bad := id rfl
@[simp] theorem ap_dMut0 {g : PV → List PV → Option (PV × PV)} : dMut0 T g i ρ = match ownAt ρ i with
  | none => .bad
  | some (s, p) => if isT T p = true then (match g p [] with
      | none => .bad
      | some (q, z) => .ok z (ρ.set i (s.with q))) else .bad := id rfl
@[simp] theorem ap_isT {ps : List PV} : isT "list" (.lst ps) = true := id rfl
@[simp] theorem ap_dCall : dCall F dl ρ = (dl ρ).bind fun ps ρ1 => match F ps with
  | .bad => .bad
  | .exc x => .exc x ρ1
  | .ok p _ => .ok p ρ1 := id rfl
@[simp] theorem ap_dCallIo : dCallIo F i dl ρ = match ownAt ρ i with
  | none => .bad
  | some _ => (dl ρ).bind fun ps ρ1 => match ownAt ρ1 i with
    | none => .bad
    | some (s, p) => match F (p :: ps) with
      | .bad => .bad
      | .exc x => .exc x (ρ1.set i .un)
      | .ok z q => .ok z (ρ1.set i (s.with q)) := id rfl
@[simp] theorem ap_dLc {di : DenL} : dLc own di dg dt da ρ = (di ρ).bind fun xs ρ1 => match lcLoop own dg dt da xs (lockE own ρ1) with
  | some (ys, ρ2) => if ys.length ≤ 1000000 then .ok (.lst ys) (backE own ρ1 ρ2) else .bad
  | none => .bad := id rfl
/-! statements -/
@[simp] theorem ap_sNx : sNx ρ = .nx ρ := id rfl
@[simp] theorem ap_sBk : sBk ρ = .bk ρ := id rfl
@[simp] theorem ap_sCt : sCt ρ = .ct ρ := id rfl
@[simp] theorem ap_sSeq : sSeq a b ρ = match a ρ with
  | .nx ρ1 => b ρ1
  | r => r := id rfl
@[simp] theorem ap_sExpr : sExpr da ρ = (da ρ).bindS fun _ ρ1 => .nx ρ1 := id rfl
@[simp] theorem ap_sRet : sRet da ρ = (da ρ).bindS fun p ρ1 => .rt p ρ1 := id rfl
@[simp] theorem ap_sRetN : sRetN ρ = .rt .non ρ := id rfl
@[simp] theorem ap_sRetO : sRetO i ρ = match ρ[i]? with
  | some (.ow p) => .rt p (ρ.set i .un)
  | _ => .bad := id rfl
@[simp] theorem ap_sIf : sIf dt a b ρ = (dt ρ).bindS fun c ρ1 => if c = true then a ρ1 else b ρ1 := id rfl
@[simp] theorem ap_sSet : sSet i da ρ = (da ρ).bindS fun p ρ1 => .nx (ρ1.set i (.sh p)) := id rfl
@[simp] theorem ap_sSetF : sSetF i da ρ = (da ρ).bindS fun p ρ1 => .nx (ρ1.set i (.ow p)) := id rfl
@[simp] theorem ap_sAsg : sAsg da dg ρ = (da ρ).bindS fun p ρ1 => match dg p ρ1 with
  | some ρ2 => .nx ρ2
  | none => .bad := id rfl
@[simp] theorem ap_sAug : sAug i g da ρ = match slot ρ i with
  | none => .bad
  | some _ => (da ρ).bindS fun q ρ1 => match slot ρ1 i with
    | none => .bad
    | some p => match g p q with
      | some z => .nx (ρ1.set i (.sh z))
      | none => .bad := id rfl
@[simp] theorem ap_sSub {g : PV → PV → PV → Option PV} : sSub g i db da ρ = (da ρ).bindS fun e ρ1 => match ownAt ρ1 i with
  | none => .bad
  | some _ => (db ρ1).bindS fun k ρ2 => match ownAt ρ2 i with
    | none => .bad
    | some (s, p) => match g p k e with
      | none => .bad
      | some q => .nx (ρ2.set i (s.with q)) := id rfl
@[simp] theorem ap_sFor {di : DenL} : sFor di dg b ρ = (di ρ).bindS fun xs ρ1 => dLoop dg b xs ρ1 := id rfl
@[simp] theorem ap_sRaise {x f : Str} : sRaise x f da ρ = (da ρ).bindS fun p ρ1 => match p with
  | .str z => if z.length ≤ 1000 then .exc ⟨x, f, .str z⟩ ρ1 else .bad
  | _ => .bad := id rfl
@[simp] theorem ap_gName : gName i p ρ = some (ρ.set i (.sh p)) := id rfl
@[simp] theorem ap_gTup {gs : List PV → Env → Option Env} {ps : List PV} : gTup gs (.tup ps) ρ = gs ps ρ := id rfl
@[simp] theorem ap_gsCons {gs : List PV → Env → Option Env} {ps : List PV} : gsCons dg gs (p :: ps) ρ = (dg p ρ).bind (gs ps) := id rfl
@[simp] theorem ap_gsNil : gsNil [] ρ = some ρ := id rfl
@[simp] theorem ap_iSeq : iSeq da ρ = (da ρ).bind fun p ρ1 => opt (seqOf p) ρ1 := id rfl
@[simp] theorem ap_seqL {ps : List PV} : seqOf (.lst ps) = some ps := id rfl
@[simp] theorem ap_seqT {ps : List PV} : seqOf (.tup ps) = some ps := id rfl
@[simp] theorem ap_seqS {x : Str} : seqOf (.str x) = some (signs x) := id rfl
def rg1 (ps : List PV) (ρ1 : Env) : Rs (List PV) := match ps with
  | [.int j] => if decide (-(2 ^ 62) ≤ j) && decide (j < 2 ^ 62) then .ok (rangeP 0 j.toNat) ρ1 else .bad
  | _ => .bad
def rg2 (ps : List PV) (ρ1 : Env) : Rs (List PV) := match ps with
  | [.int i, .int j] => if (decide (-(2 ^ 62) ≤ i) && decide (i < 2 ^ 62)) && (decide (-(2 ^ 62) ≤ j) && decide (j < 2 ^ 62)) then .ok (rangeP i (j - i).toNat) ρ1 else .bad
  | _ => .bad
@[simp] theorem ap_iR1 : iR1 dl ρ = (dl ρ).bind fun ps ρ1 => rg1 ps ρ1 := id rfl
@[simp] theorem ap_iR2 : iR2 dl ρ = (dl ρ).bind fun ps ρ1 => rg2 ps ρ1 := id rfl
theorem rg1_ok {j : Int} (h1 : -1000000000 ≤ j) (h2 : j ≤ 1000000000) : rg1 [.int j] ρ = .ok (rangeP 0 j.toNat) ρ := by
  have h1 : decide (-(2 ^ 62) ≤ j) = true := decide_eq_true (by omega)
  have h2 : decide (j < 2 ^ 62) = true := decide_eq_true (by omega)
  simp only [rg1, h1, h2]
  rfl
theorem rg2_ok {i j : Int} (h1 : -1000000000 ≤ i) (h2 : i ≤ 1000000000) (h3 : -1000000000 ≤ j) (h4 : j ≤ 1000000000) : rg2 [.int i, .int j] ρ = .ok (rangeP i (j - i).toNat) ρ := by
  have h1 : decide (-(2 ^ 62) ≤ i) = true := decide_eq_true (by omega)
  have h2 : decide (i < 2 ^ 62) = true := decide_eq_true (by omega)
  have h3 : decide (-(2 ^ 62) ≤ j) = true := decide_eq_true (by omega)
  have h4 : decide (j < 2 ^ 62) = true := decide_eq_true (by omega)
  simp only [rg2, h1, h2, h3, h4]
  rfl
theorem rg1_nat {n : Nat} (h : n ≤ 1000000000) : rg1 [.int (n : Int)] ρ = .ok (rangeP 0 n) ρ := by
  rw [rg1_ok (by omega) (by omega)]; rfl
/-! operations -/
@[simp] theorem ap_addI (i j : Int) : gAdd (.int i) (.int j) = some (.int (i + j)) := id rfl
@[simp] theorem ap_addS (x y : Str) : gAdd (.str x) (.str y) = if x.length + y.length ≤ sizeLine then some (.str (x ++ y)) else none := id rfl
@[simp] theorem ap_addL (x y : List PV) : gAdd (.lst x) (.lst y) = if x.length + y.length ≤ sizeLine then some (.lst (x ++ y)) else none := id rfl
@[simp] theorem ap_augI (i j : Int) : gAugAdd (.int i) (.int j) = some (.int (i + j)) := id rfl
@[simp] theorem ap_augS (x y : Str) : gAugAdd (.str x) (.str y) = if x.length + y.length ≤ sizeLine then some (.str (x ++ y)) else none := id rfl
@[simp] theorem ap_subI (i j : Int) : gSub (.int i) (.int j) = some (.int (i - j)) := id rfl
@[simp] theorem ap_mulI (i j : Int) : gMul (.int i) (.int j) = if smallI i || smallI j then some (.int (i * j)) else none := id rfl
@[simp] theorem ap_fdivI (i j : Int) : gFdiv (.int i) (.int j) = if decide (0 < j) && decide (j < 1073741824) then some (.int (i / j)) else none := id rfl
@[simp] theorem ap_modI (i j : Int) : gMod (.int i) (.int j) = if decide (0 < j) then some (.int (i % j)) else none := id rfl
@[simp] theorem ap_powI (i j : Int) : gPow (.int i) (.int j) = if decide (0 ≤ j) && decide (j ≤ 1000000) && decide (i.natAbs < 2 ^ 64) then some (.int (i ^ j.toNat)) else none := id rfl
@[simp] theorem ap_negI (i : Int) : gNeg (.int i) = some (.int (-i)) := id rfl
@[simp] theorem ap_cmpI (f : Int → Int → Bool) (i j : Int) : gCmpI f (.int i) (.int j) = some (.bl (f i j)) := id rfl
@[simp] theorem ap_intI (i : Int) : gInt [.int i] = some (.int i) := id rfl
@[simp] theorem ap_intB (b : Bool) : gInt [.bl b] = some (.int (if b then 1 else 0)) := id rfl
@[simp] theorem ap_absI (i : Int) : gAbs [.int i] = some (.int (if i < 0 then -i else i)) := id rfl
@[simp] theorem ap_max2 (i j : Int) : gMax2 [.int i, .int j] = some (.int (if j > i then j else i)) := id rfl
@[simp] theorem ap_min2 (i j : Int) : gMin2 [.int i, .int j] = some (.int (if j < i then j else i)) := id rfl
@[simp] theorem ap_lenL (ps : List PV) : gLen (.lst ps) = some (.int ps.length) := id rfl
@[simp] theorem ap_lenK (ps : List PV) : gLen (.klst ps) = some (.int ps.length) := id rfl
@[simp] theorem ap_lenT (ps : List PV) : gLen (.tup ps) = some (.int ps.length) := id rfl
@[simp] theorem ap_lenS (x : Str) : gLen (.str x) = if x.length ≤ sizeLine then some (.int x.length) else none := id rfl
@[simp] theorem ap_lenN : gLenN [p] = gLen p := id rfl
@[simp] theorem ap_ixL (ps : List PV) (i : Int) : gIx (.lst ps) (.int i) = atI ps i := id rfl
@[simp] theorem ap_ixT (ps : List PV) (i : Int) : gIx (.tup ps) (.int i) = atI ps i := id rfl
@[simp] theorem ap_ixK (ps : List PV) (i : Int) : gIx (.klst ps) (.int i) = atI ps i := id rfl
@[simp] theorem ap_ixS (z : Str) (i : Int) : gIx (.str z) (.int i) = if z.length ≤ sizeLine then (atI z.cps.toList i).map fun c => .str ⟨#[c]⟩ else none := id rfl
@[simp] theorem ap_app (ps : List PV) (p : PV) : gAppend (.lst ps) [p] = if ps.length < sizeLine then some (.lst (ps ++ [p]), .non) else none := id rfl
@[simp] theorem ap_pop (ps : List PV) : gPop (.lst ps) [] = (ps[ps.length - 1]?).map fun p => (.lst ps.dropLast, p) := id rfl
@[simp] theorem ap_rev (ps : List PV) : gReverse (.lst ps) [] = some (.lst ps.reverse, .non) := id rfl
@[simp] theorem ap_setL (ps : List PV) (i : Int) (e : PV) : gSetL (.lst ps) (.int i) e = (ixN ps.length i).map fun j => .lst (ps.set j e) := id rfl
@[simp] theorem ap_cat (ps qs : List PV) : gCat (.lst ps) (.lst qs) = if ps.length + qs.length ≤ sizeLine then some (.lst (ps ++ qs)) else none := id rfl
end
end PL

set_option Elab.async false
set_option linter.all false
set_option maxRecDepth 100000
set_option maxHeartbeats 4000000
namespace PL
open PySem PySem.Spec L2
set_option autoImplicit false
/-! ### loops -/
theorem seq_nx {a b : DenS} {ρ ρ1 : Env} (h : a ρ = .nx ρ1) : sSeq a b ρ = b ρ1 := by rw [ap_sSeq, h]

theorem dLoop_inv {tgt : DenG} {body : DenS} {items : List PV} (Inv : Nat → Env → Prop) (h : ∀ i x ρ, items[i]? = some x → Inv i ρ → ∃ ρ1 ρ2, tgt x ρ = some ρ1 ∧ (body ρ1 = .nx ρ2 ∨ body ρ1 = .ct ρ2) ∧ Inv (i + 1) ρ2) {ρ0 : Env} (h0 : Inv 0 ρ0) :
    ∃ ρ, dLoop tgt body items ρ0 = .nx ρ ∧ Inv items.length ρ := by
  induction items generalizing Inv ρ0 with
  | nil => exact ⟨ρ0, rfl, h0⟩
  | cons x xs ih =>
    obtain ⟨ρ1, ρ2, e1, e2, h2⟩ := h 0 x ρ0 rfl h0
    obtain ⟨ρ, e3, h3⟩ := ih (fun i => Inv (i + 1)) (fun i y ρ hy hi => h (i + 1) y ρ (by simpa using hy) hi) h2
    refine ⟨ρ, ?_, h3⟩
    unfold dLoop
    rw [e1]
    rcases e2 with e2 | e2
    · simp only [e2]; exact e3
    · simp only [e2]; exact e3
/-- .. or it ends the def -/
theorem dLoop_or {tgt : DenG} {body : DenS} {items : List PV} (Inv : Nat → Env → Prop) (R : RS → Prop) (h : ∀ i x ρ, items[i]? = some x → Inv i ρ → ∃ ρ1, tgt x ρ = some ρ1 ∧ ((∃ ρ2, (body ρ1 = .nx ρ2 ∨ body ρ1 = .ct ρ2) ∧ Inv (i + 1) ρ2) ∨ (∃ ρ2, body ρ1 = .bk ρ2 ∧ R (.nx ρ2)) ∨ (∃ p ρ2, body ρ1 = .rt p ρ2 ∧ R (.rt p ρ2)) ∨ ∃ e ρ2, body ρ1 = .exc e ρ2 ∧ R (.exc e ρ2)))
    (hR : ∀ ρ, Inv items.length ρ → R (.nx ρ)) {ρ0 : Env} (h0 : Inv 0 ρ0) : R (dLoop tgt body items ρ0) := by
  induction items generalizing Inv ρ0 with
  | nil => exact hR _ h0
  | cons x xs ih =>
    obtain ⟨ρ1, e1, h2⟩ := h 0 x ρ0 rfl h0
    unfold dLoop
    rw [e1]
    rcases h2 with ⟨ρ2, e2, h2⟩ | ⟨ρ2, e2, h2⟩ | ⟨p, ρ2, e2, h2⟩ | ⟨e, ρ2, e2, h2⟩
    · have z := ih (fun i => Inv (i + 1)) (fun i y ρ hy hi => h (i + 1) y ρ (by simpa using hy) hi) (fun ρ hi => hR ρ hi) h2
      rcases e2 with e2 | e2
      · simp only [e2]; exact z
      · simp only [e2]; exact z
    · simp only [e2]; exact h2
    · simp only [e2]; exact h2
    · simp only [e2]; exact h2
/-- a comprehension, its items one by one -/
theorem lcLoop_inv {own : List Nat} {tgt : DenG} {test : DenB} {elt : Den} {items : List PV} (Inv : Nat → List PV → Env → Prop)
    (h : ∀ i x ys ρ, items[i]? = some x → Inv i ys ρ → ∃ ρ1, tgt x ρ = some ρ1 ∧ ((∃ ρ2 y ρ3, test ρ1 = .ok true ρ2 ∧ elt ρ2 = .ok y ρ3 ∧ noOw ρ3 = true ∧ Inv (i + 1) (ys ++ [y]) (wipeE own ρ3)) ∨ (∃ ρ2, test ρ1 = .ok false ρ2 ∧ noOw ρ2 = true ∧ Inv (i + 1) ys (wipeE own ρ2)))) :
    ∀ {ρ0 : Env} {ys0 : List PV}, Inv 0 ys0 ρ0 → ∃ ys ρ, lcLoop own tgt test elt items ρ0 = some (ys, ρ) ∧ Inv items.length (ys0 ++ ys) ρ := by
  induction items generalizing Inv with
  | nil => intro ρ0 ys0 h0; exact ⟨[], ρ0, rfl, by rw [List.append_nil]; exact h0⟩
  | cons x xs ih =>
    intro ρ0 ys0 h0
    obtain ⟨ρ1, e1, h2⟩ := h 0 x ys0 ρ0 rfl h0
    have h' : ∀ i y ys ρ, xs[i]? = some y → Inv (i + 1) ys ρ → _ := fun i y ys ρ hy hi => h (i + 1) y ys ρ (by simpa using hy) hi
    rcases h2 with ⟨ρ2, y, ρ3, e2, e3, e4, h2⟩ | ⟨ρ2, e2, e4, h2⟩
    · obtain ⟨ys, ρ, e5, h5⟩ := ih (fun i => Inv (i + 1)) h' h2
      refine ⟨y :: ys, ρ, ?_, by rw [List.append_assoc] at h5; exact h5⟩
      unfold lcLoop
      simp only [e1, e2, e3, e4, e5, if_true]
    · obtain ⟨ys, ρ, e5, h5⟩ := ih (fun i => Inv (i + 1)) h' h2
      refine ⟨ys, ρ, ?_, h5⟩
      unfold lcLoop
      simp only [e1, e2, e4, e5, if_true]
theorem rangeP_get {lo : Int} {n i : Nat} {x : PV} (h : (rangeP lo n)[i]? = some x) : i < n ∧ x = .int (lo + i) := by
  unfold rangeP at h
  rw [List.getElem?_map] at h
  cases e : (List.range n)[i]? with
  | none => rw [e] at h; cases h
  | some c =>
    rw [e] at h; cases h
    have hi := (List.getElem?_eq_some_iff.mp e).1
    rw [List.length_range] at hi
    rw [List.getElem?_range hi] at e
    cases e
    exact ⟨hi, rfl⟩
@[simp] theorem rangeP_len {lo : Int} {n : Nat} : (rangeP lo n).length = n := by simp [rangeP]
/-! ### the deck -/
def den_take : DenS :=
  (sSeq (sIf (bVal (d2 gEq (d1v gLen 0) (dC (.int 0)))) (sRet (dC (.int 0))) sNx)
    (sRet (dMod (dN gInt (dCons (dMut0 "list" gPop 0) dNil)) (dVar 1))))
def F_take : List PV → FR := runD true false 2 2 den_take
def B_deck_2 : DenS :=
  (sSeq (sExpr (dMut "list" gAppend 3 (dCons (dMod (dN gInt (dCons (dVar 7) dNil)) (dC (.int 1000003))) dNil)))
    (sSet 7 (dFdiv (dVar 7) (dC (.int 1000003)))))
def B_deck_3 : DenS :=
  (sSeq (sSet 4 (dMod (dN gInt (dCons (dAdd (dAdd (dMul (dVar 4) (dC (.int 69621))) (dVar 8)) (dC (.int 1))) dNil)) (dC (.int 2147483629))))
    (sExpr (dMut "list" gAppend 3 (dCons (dMod (dN gInt (dCons (dFdiv (dVar 4) (dC (.int 5))) dNil)) (dC (.int 1000003))) dNil))))
def B_deck_1 : DenS :=
  (sSeq (sSet 6 (dC (.int 0)))
    (sSeq (sIf (bVal (d2 gLt (dVar 5) (dN gLenN (dCons (dVar 0) dNil)))) (sSet 6 (d2 gIx (dVar 0) (dVar 5))) sNx)
    (sSeq (sSet 7 (dN gAbs (dCons (dVar 6) dNil)))
    (sIf (bVal (d2 gGe (dVar 7) (dPow (dC (.int 10)) (dC (.int 30))))) (sFor (iR1 (dCons (dVar 2) dNil)) (gName 8) B_deck_2) (sSeq (sSet 4 (dMod (dN gInt (dCons (dAdd (dAdd (dAdd (dMul (dVar 4) (dC (.int 48271))) (dMul (dC (.int 2)) (dVar 7))) (dN gInt (dCons (d2 gLt (dVar 6) (dC (.int 0))) dNil))) (dVar 5)) dNil)) (dC (.int 2147483647))))
    (sFor (iR1 (dCons (dVar 2) dNil)) (gName 8) B_deck_3))))))
def den_deck : DenS :=
  (sSeq (sSetF 3 (dLst dNil))
    (sSeq (sSet 4 (dAdd (dC (.int 7)) (dN gLenN (dCons (dVar 0) dNil))))
    (sSeq (sFor (iR1 (dCons (dVar 1) dNil)) (gName 5) B_deck_1)
    (sSeq (sExpr (dMut0 "list" gReverse 3))
    (sRetO 3)))))
def F_deck : List PV → FR := runD false true 3 9 den_deck
def den_plain (F_plain : List PV → FR) : DenS :=
  (sSeq (sIf (bTru (d1 (gIsi2 "tuple" "list") (dVar 0))) (sRet (dAdd (dLst (dCons (d1 (gIsi "list") (dVar 0)) dNil)) (dLc ([(("item" : Str), 1)].map (·.2)) (iSeq (dVar 0)) (gName 1) bYes (dCall F_plain (dCons (dVar 1) dNil))))) sNx)
    (sSeq (sIf (bOr (bVal (d2 (gIsN false) (dVar 0) (dC .non))) (bTru (d1 (gIsi "bool") (dVar 0)))) (sRet (d2 gIx (dLst (dCons (dC (.str ("None" : Str))) (dCons (dC (.str ("False" : Str))) (dCons (dC (.str ("True" : Str))) dNil)))) (dAdd (dN gInt (dCons (d2 (gIsN true) (dVar 0) (dC .non)) dNil)) (dN gInt (dCons (d2 (gIsBB false) (dVar 0) (dC (.bl true))) dNil))))) sNx)
    (sSeq (sIf (bTru (d1 (gIsi2 "int" "str") (dVar 0))) (sRet (dLst (dCons (d1 (gIsi "str") (dVar 0)) (dCons (dVar 0) dNil)))) sNx)
    (sRet (dC (.str ("another" : Str)))))))
def F_plain_ : Nat → List PV → FR
  | 0 => runD false false 1 2 (fun _ => .bad)
  | n + 1 => runD false false 1 2 (den_plain (F_plain_ n))
/-- a deck: the next card first -/
def dk (ds : List Int) : PV := .lst (ds.reverse.map .int)
def tk : List Int → Int → Int × List Int
  | [], _ => (0, [])
  | x :: ds, m => (x % m, ds)
theorem tk_lt {ds : List Int} {m : Int} (h : 0 < m) : 0 ≤ (tk ds m).1 ∧ (tk ds m).1 < m := by
  cases ds with
  | nil => exact ⟨Int.le_refl 0, h⟩
  | cons x ds => exact ⟨Int.emod_nonneg _ (by omega), Int.emod_lt_of_pos _ h⟩
@[simp] theorem shaped_int (i : Int) : SeqAt.shaped (PV.toD (.int i)) = true := rfl
theorem eqv_int (i j : Int) : PyData.eqv (.int i) (.int j) = decide (i = j) := by
  simp only [PyData.eqv]
  by_cases h : i = j <;> simp [h]
@[simp] theorem pvEq_int (i j : Int) : pvEq (.int i) (.int j) = decide (i = j) := eqv_int i j
@[simp] theorem ap_eqI (i j : Int) : gEq (.int i) (.int j) = some (.bl (decide (i = j))) := by
  unfold gEq; simp
@[simp] theorem ap_neI (i j : Int) : gNe (.int i) (.int j) = some (.bl (!decide (i = j))) := by
  unfold gNe; simp
theorem F_take_eq {ds : List Int} {m : Int} (h : 0 < m) : F_take [dk ds, .int m] = .ok (.int (tk ds m).1) (dk (tk ds m).2) := by
  cases ds with
  | nil => simp [F_take, den_take, runD, argSl, dk, tk, fin0, io0]
  | cons x ds =>
    have h0 : ¬ ((ds.length : Int) + 1 = 0) := by omega
    simp [F_take, den_take, runD, argSl, dk, tk, fin0, io0, h, h0]

theorem ixN_nat {n i : Nat} (h : i < n) : ixN n (i : Int) = some i := by
  unfold ixN
  rw [if_pos (by omega), if_pos (by omega)]
  simp
theorem atI_nat {α : Type} {xs : List α} {i : Nat} (h : i < xs.length) : L2.atI xs (i : Int) = some xs[i] := by
  unfold L2.atI
  rw [ixN_nat h]
  exact List.getElem?_eq_getElem h
/-- the deck's slots -/
def dkE (sc : PV) (c e : Nat) (ds : List Int) (seed : Int) (s5 s6 s7 s8 : Sl) : Env := [.sh sc, .sh (.int c), .sh (.int e), .ow (.lst (ds.map .int)), .sh (.int seed), s5, s6, s7, s8]
theorem app_int {ds : List Int} {x : Int} (h : ds.length < sizeLine) : gAppend (.lst (ds.map .int)) [.int x] = some (.lst ((ds ++ [x]).map .int), .non) := by
  rw [ap_app, List.length_map, if_pos h, List.map_append]; rfl
theorem deck_one2 {sc : PV} {c e i : Nat} {ds : List Int} {seed rest : Int} {s5 s6 s8 : Sl} (h : ds.length < sizeLine) :
    B_deck_2 (dkE sc c e ds seed s5 s6 (.sh (.int rest)) s8) = .nx (dkE sc c e (ds ++ [rest % 1000003]) seed s5 s6 (.sh (.int (rest / 1000003))) s8) := by
  simp [B_deck_2, dkE, h]
theorem deck_in2 {sc : PV} {c e : Nat} {ds : List Int} {seed : Int} {s5 s6 s8 : Sl} {rest : Int} (hr : ds.length + e ≤ sizeLine) (he : e ≤ 1000000000) :
    ∃ (ds' : List Int) (s7 s8' : Sl), ds'.length = ds.length + e ∧ sFor (iR1 (dCons (dVar 2) dNil)) (gName 8) B_deck_2 (dkE sc c e ds seed s5 s6 (.sh (.int rest)) s8) = .nx (dkE sc c e ds' seed s5 s6 s7 s8') := by
  obtain ⟨ρ, h1, ds', rest', s8', h2, h3⟩ := dLoop_inv (tgt := gName 8) (body := B_deck_2) (items := rangeP 0 e) (ρ0 := dkE sc c e ds seed s5 s6 (.sh (.int rest)) s8)
    (fun i ρ => ∃ (ds' : List Int) (rest : Int) (s8 : Sl), ds'.length = ds.length + i ∧ ρ = dkE sc c e ds' seed s5 s6 (.sh (.int rest)) s8)
    (fun i x ρ hx hi => by
      obtain ⟨hie, rfl⟩ := rangeP_get hx
      obtain ⟨ds', rest, s8, hl, rfl⟩ := hi
      exact ⟨_, _, rfl, .inl (deck_one2 (i := 0) (by omega)), ⟨_, _, _, by rw [List.length_append, hl]; rfl, rfl⟩⟩) ⟨ds, rest, s8, rfl, rfl⟩
  refine ⟨ds', .sh (.int rest'), s8', by rw [h2, rangeP_len], ?_⟩
  rw [← h3, ← h1]
  simp [dkE, rg1_nat he]
theorem deck_one3 {sc : PV} {c e : Nat} {ds : List Int} {seed j : Int} {s5 s6 s7 : Sl} (h : ds.length < sizeLine) :
    B_deck_3 (dkE sc c e ds seed s5 s6 s7 (.sh (.int j))) = .nx (dkE sc c e (ds ++ [(seed * 69621 + j + 1) % 2147483629 / 5 % 1000003]) ((seed * 69621 + j + 1) % 2147483629) s5 s6 s7 (.sh (.int j))) := by
  simp [B_deck_3, dkE, h, smallI]
theorem deck_in3 {sc : PV} {c e : Nat} {ds : List Int} {seed : Int} {s5 s6 s7 s8 : Sl} (hr : ds.length + e ≤ sizeLine) (he : e ≤ 1000000000) :
    ∃ (ds' : List Int) (seed' : Int) (s8' : Sl), ds'.length = ds.length + e ∧ sFor (iR1 (dCons (dVar 2) dNil)) (gName 8) B_deck_3 (dkE sc c e ds seed s5 s6 s7 s8) = .nx (dkE sc c e ds' seed' s5 s6 s7 s8') := by
  obtain ⟨ρ, h1, ds', seed', s8', h2, h3⟩ := dLoop_inv (tgt := gName 8) (body := B_deck_3) (items := rangeP 0 e) (ρ0 := dkE sc c e ds seed s5 s6 s7 s8)
    (fun i ρ => ∃ (ds' : List Int) (seed : Int) (s8 : Sl), ds'.length = ds.length + i ∧ ρ = dkE sc c e ds' seed s5 s6 s7 s8)
    (fun i x ρ hx hi => by
      obtain ⟨hie, rfl⟩ := rangeP_get hx
      obtain ⟨ds', seed, s8, hl, rfl⟩ := hi
      exact ⟨_, _, rfl, .inl (deck_one3 (by omega)), ⟨_, _, _, by rw [List.length_append, hl]; rfl, rfl⟩⟩) ⟨ds, seed, s8, rfl, rfl⟩
  refine ⟨ds', seed', s8', by rw [h2, rangeP_len], ?_⟩
  rw [← h3, ← h1]
  simp [dkE, rg1_nat he]
theorem deck_one1 {ns : List Int} {c e i : Nat} {ds : List Int} {seed : Int} {s6 s7 s8 : Sl} (hr : ds.length + e ≤ sizeLine) (he : e ≤ 1000000000) :
    ∃ (ds' : List Int) (seed' : Int) (s6' s7' s8' : Sl), ds'.length = ds.length + e ∧
      B_deck_1 (dkE (.klst (ns.map .int)) c e ds seed (.sh (.int (i : Nat))) s6 s7 s8) = .nx (dkE (.klst (ns.map .int)) c e ds' seed' (.sh (.int (i : Nat))) s6' s7' s8') := by
  obtain ⟨cell, h1⟩ : ∃ cell : Int, sIf (bVal (d2 gLt (dVar 5) (dN gLenN (dCons (dVar 0) dNil)))) (sSet 6 (d2 gIx (dVar 0) (dVar 5))) sNx (dkE (.klst (ns.map .int)) c e ds seed (.sh (.int (i : Nat))) (.sh (.int 0)) s7 s8) = .nx (dkE (.klst (ns.map .int)) c e ds seed (.sh (.int (i : Nat))) (.sh (.int cell)) s7 s8) := by
    by_cases h : i < ns.length
    · refine ⟨ns[i], ?_⟩
      have h1 : L2.atI (ns.map PV.int) (i : Int) = some (.int ns[i]) := by
        rw [atI_nat (by rw [List.length_map]; exact h), List.getElem_map]
      simp [dkE, h, h1]
    · refine ⟨0, ?_⟩
      simp [dkE, h]
  have h2 : sSet 6 (dC (.int 0)) (dkE (.klst (ns.map .int)) c e ds seed (.sh (.int (i : Nat))) s6 s7 s8) = .nx (dkE (.klst (ns.map .int)) c e ds seed (.sh (.int (i : Nat))) (.sh (.int 0)) s7 s8) := by simp [dkE]
  have h3 : ∀ s7, sSet 7 (dN gAbs (dCons (dVar 6) dNil)) (dkE (.klst (ns.map .int)) c e ds seed (.sh (.int (i : Nat))) (.sh (.int cell)) s7 s8) = .nx (dkE (.klst (ns.map .int)) c e ds seed (.sh (.int (i : Nat))) (.sh (.int cell)) (.sh (.int (if cell < 0 then -cell else cell))) s8) := fun s7 => by simp [dkE]
  unfold B_deck_1
  rw [ap_sSeq, h2]
  simp only
  rw [ap_sSeq, h1]
  simp only
  rw [ap_sSeq, h3]
  simp only
  generalize (if cell < 0 then -cell else cell) = rest
  by_cases hb : (10 : Int) ^ 30 ≤ rest
  · obtain ⟨ds', s7', s8', h4, h5⟩ := deck_in2 (sc := .klst (ns.map .int)) (c := c) (e := e) (ds := ds) (seed := seed) (s5 := .sh (.int (i : Nat))) (s6 := .sh (.int cell)) (s8 := s8) (rest := rest) hr he
    refine ⟨ds', seed, .sh (.int cell), s7', s8', h4, ?_⟩
    rw [← h5]
    have hb : (1000000000000000000000000000000 : Int) ≤ rest := hb
    simp [dkE, hb]
  · obtain ⟨ds', seed', s8', h4, h5⟩ := deck_in3 (sc := .klst (ns.map .int)) (c := c) (e := e) (ds := ds) (seed := (seed * 48271 + 2 * rest + (if cell < 0 then 1 else 0) + i) % 2147483647) (s5 := .sh (.int (i : Nat))) (s6 := .sh (.int cell)) (s7 := .sh (.int rest)) (s8 := s8) hr he
    refine ⟨ds', seed', .sh (.int cell), .sh (.int rest), s8', h4, ?_⟩
    rw [← h5]
    have hb : ¬ (1000000000000000000000000000000 : Int) ≤ rest := hb
    simp [dkE, hb, smallI]
theorem F_deck_eq {ns : List Int} {c e : Nat} (h : c * e ≤ sizeLine) (hc : c ≤ 1000000000) (he : e ≤ 1000000000) : ∃ ds : List Int, F_deck [.klst (ns.map .int), .int c, .int e] = .ok (dk ds) .non := by
  obtain ⟨ρ, h1, ds, seed, s5, s6, s7, s8, h2, h3⟩ := dLoop_inv (tgt := gName 5) (body := B_deck_1) (items := rangeP 0 c) (ρ0 := dkE (.klst (ns.map .int)) c e [] (7 + ns.length) .un .un .un .un)
    (fun i ρ => ∃ (ds : List Int) (seed : Int) (s5 s6 s7 s8 : Sl), ds.length = i * e ∧ ρ = dkE (.klst (ns.map .int)) c e ds seed s5 s6 s7 s8)
    (fun i x ρ hx hi => by
      obtain ⟨hic, rfl⟩ := rangeP_get hx
      obtain ⟨ds, seed, s5, s6, s7, s8, hl, rfl⟩ := hi
      have hm : (i + 1) * e ≤ c * e := Nat.mul_le_mul_right _ hic
      rw [Nat.succ_mul] at hm
      obtain ⟨ds', seed', s6', s7', s8', h4, h5⟩ := deck_one1 (ns := ns) (c := c) (e := e) (i := i) (ds := ds) (seed := seed) (s6 := s6) (s7 := s7) (s8 := s8) (by omega) he
      rw [Int.zero_add]
      exact ⟨_, _, rfl, .inl h5, ⟨ds', seed', _, s6', s7', s8', by rw [h4, hl, Nat.succ_mul], rfl⟩⟩) ⟨[], _, _, _, _, _, by simp, rfl⟩
  refine ⟨ds, ?_⟩
  subst h3
  have h4 : sFor (iR1 (dCons (dVar 1) dNil)) (gName 5) B_deck_1 (dkE (.klst (ns.map .int)) c e [] (7 + ns.length) .un .un .un .un) = .nx (dkE (.klst (ns.map .int)) c e ds seed s5 s6 s7 s8) := by
    rw [← h1]
    simp [dkE, rg1_nat hc]
  have h5 : sSeq (sExpr (dMut0 "list" gReverse 3)) (sRetO 3) (dkE (.klst (ns.map .int)) c e ds seed s5 s6 s7 s8) = .rt (dk ds) (.sh (.klst (ns.map .int)) :: .sh (.int c) :: .sh (.int e) :: .un :: .sh (.int seed) :: [s5, s6, s7, s8]) := by
    simp [dkE, dk]
  have h6 : den_deck (argSl false [.klst (ns.map .int), .int c, .int e] ++ List.replicate (9 - 3) .un) = .rt (dk ds) (.sh (.klst (ns.map .int)) :: .sh (.int c) :: .sh (.int e) :: .un :: .sh (.int seed) :: [s5, s6, s7, s8]) := by
    unfold den_deck
    rw [seq_nx (ρ1 := [.sh (.klst (ns.map .int)), .sh (.int c), .sh (.int e), .ow (.lst []), .un, .un, .un, .un, .un]) (by simp [argSl, List.replicate]),
      seq_nx (ρ1 := dkE (.klst (ns.map .int)) c e [] (7 + ns.length) .un .un .un .un) (by simp [dkE]), seq_nx h4, h5]
  simp only [F_deck, runD, h6, fin0]
  simp
end PL

set_option Elab.async false
set_option linter.all false
set_option maxRecDepth 100000
set_option maxHeartbeats 4000000
namespace PL
open PySem PySem.Spec L2
set_option autoImplicit false
/-! ### what _law_plain tells -/
mutual
def plainP : PV → PV
  | .non => .str "None"
  | .bl false => .str "False"
  | .bl true => .str "True"
  | .int i => .lst [.bl false, .int i]
  | .str x => .lst [.bl true, .str x]
  | .lst ps => .lst (.bl true :: plainPs ps)
  | .tup ps => .lst (.bl false :: plainPs ps)
  | .ktup ps => .lst (.bl false :: plainPs ps)
  | .klst _ => .str "another"
  | .dic _ _ _ => .str "another"
  | .fn _ => .str "another"
def plainPs : List PV → List PV
  | [] => []
  | p :: ps => plainP p :: plainPs ps
end
mutual
/-- of depth under n, of no great length -/
def okD : Nat → PV → Bool
  | 0, _ => false
  | n + 1, .lst ps => decide (ps.length ≤ 100000) && okDs n ps
  | n + 1, .tup ps => decide (ps.length ≤ 100000) && okDs n ps
  | n + 1, .ktup ps => decide (ps.length ≤ 100000) && okDs n ps
  | _ + 1, .str x => PyData.canLay0 (.str x)
  | _ + 1, .klst _ => false
  | _ + 1, .dic _ _ _ => false
  | _ + 1, .fn _ => false
  | _ + 1, _ => true
def okDs : Nat → List PV → Bool
  | _, [] => true
  | n, p :: ps => okD n p && okDs n ps
end
theorem okDs_iff {n : Nat} : ∀ {ps : List PV}, okDs n ps = true ↔ ∀ p ∈ ps, okD n p = true
  | [] => by simp [okDs]
  | p :: ps => by simp [okDs, okDs_iff (ps := ps)]
theorem plainPs_len : ∀ ps : List PV, (plainPs ps).length = ps.length
  | [] => rfl
  | p :: ps => by simp [plainPs, plainPs_len ps]
theorem plainPs_map : ∀ ps : List PV, plainPs ps = ps.map plainP
  | [] => rfl
  | p :: ps => by simp [plainPs, plainPs_map ps]
theorem lc_plain {n : Nat} {q : PV} (ih : ∀ p, okD n p = true → F_plain_ n [p] = .ok (plainP p) .non) : ∀ (ps : List PV), okDs n ps = true →
    lcLoop [1] (gName 1) bYes (dCall (F_plain_ n) (dCons (dVar 1) dNil)) ps [.sh q, .un] = some (plainPs ps, [.sh q, .un])
  | [], _ => rfl
  | p :: ps, h => by
    have h : okD n p = true ∧ okDs n ps = true := by simpa [okDs] using h
    unfold lcLoop
    simp [ih p h.1, noOw, Sl.isOw, wipeE, lc_plain ih ps h.2, plainPs]
theorem F_plain_eq : ∀ (n : Nat) (p : PV), okD n p = true → F_plain_ n [p] = .ok (plainP p) .non
  | 0, p, h => by simp [okD] at h
  | n + 1, p, h => by
    have ih := F_plain_eq n
    have seq : ∀ (ps : List PV) (q : PV) (b : Bool), seqOf q = some ps → ps.length ≤ 100000 → okDs n ps = true → gIsi2 "tuple" "list" q = some (.bl true) → gIsi "list" q = some (.bl b) → F_plain_ (n + 1) [q] = .ok (.lst (.bl b :: plainPs ps)) .non := by
      intro ps q b h1 h2 h3 h4 h5
      have h6 : ps.length ≤ 1000000 := by omega
      have h7 : 1 + ps.length ≤ sizeLine := by rw [sizeLine_eq]; omega
      have h8 : (1 : Nat) ≤ sizeLine := by rw [sizeLine_eq]; omega
      simp [F_plain_, runD, argSl, den_plain, List.replicate, fin0, h1, h4, h5, truth, lockE, Sl.lock, lc_plain ih ps h3, plainPs_len, h6, h7, h8, backE, List.range, List.range.loop, Sl.back, clean]
    cases p with
    | lst ps =>
      have h : ps.length ≤ 100000 ∧ okDs n ps = true := by simpa [okD] using h
      exact seq ps _ true rfl h.1 h.2 rfl rfl
    | tup ps =>
      have h : ps.length ≤ 100000 ∧ okDs n ps = true := by simpa [okD] using h
      exact seq ps _ false rfl h.1 h.2 rfl rfl
    | ktup ps =>
      have h : ps.length ≤ 100000 ∧ okDs n ps = true := by simpa [okD] using h
      exact seq ps _ false rfl h.1 h.2 rfl rfl
    | non => rfl
    | bl b => cases b <;> rfl
    | int i => rfl
    | str x => rfl
    | klst ps => simp [okD] at h
    | dic t ks vs => simp [okD] at h
    | fn a => simp [okD] at h
end PL

set_option Elab.async false
set_option linter.all false
set_option maxRecDepth 100000
set_option maxHeartbeats 4000000
namespace PL
open PySem PySem.Spec L2
set_option autoImplicit false
/-! ### slots lent and given back -/
section
variable (p q : PV)
@[simp] theorem lock_un : Sl.lock .un = .un := id rfl
@[simp] theorem lock_sh : Sl.lock (.sh p) = .sh p := id rfl
@[simp] theorem lock_ow : Sl.lock (.ow p) = .io p := id rfl
@[simp] theorem lock_io : Sl.lock (.io p) = .io p := id rfl
@[simp] theorem back_ow : Sl.back (.ow p) (.io q) = .ow q := id rfl
@[simp] theorem back_io : Sl.back (.io p) (.io q) = .io q := id rfl
@[simp] theorem back_sh : Sl.back (.sh p) (.sh q) = .sh q := id rfl
@[simp] theorem back_owsh : Sl.back (.ow p) (.sh q) = .sh q := id rfl
@[simp] theorem back_un : Sl.back .un .un = .un := id rfl
@[simp] theorem clean_un : clean .un = .un := id rfl
@[simp] theorem clean_sh : clean (.sh p) = .sh p := id rfl
@[simp] theorem isOw_un : Sl.isOw .un = false := id rfl
@[simp] theorem isOw_sh : Sl.isOw (.sh p) = false := id rfl
@[simp] theorem isOw_io : Sl.isOw (.io p) = false := id rfl
@[simp] theorem noOw_nil : noOw [] = true := id rfl
@[simp] theorem noOw_cons (s : Sl) (r : Env) : noOw (s :: r) = (!s.isOw && noOw r) := id rfl
end
def sl : Option PV → Sl
  | none => .un
  | some p => .sh p
@[simp] theorem sl_lock (o : Option PV) : Sl.lock (sl o) = sl o := by cases o <;> rfl
@[simp] theorem sl_back (o : Option PV) : Sl.back (sl o) (sl o) = sl o := by cases o <;> rfl
@[simp] theorem sl_ow (o : Option PV) : Sl.isOw (sl o) = false := by cases o <;> rfl
@[simp] theorem sl_clean (o : Option PV) : clean (sl o) = sl o := by cases o <;> rfl
/-! ### texts as lists of signs -/
def st (l : List Nat) : Str := ⟨l.toArray⟩
theorem st_cps (l : List Nat) : (st l).cps.toList = l := rfl
@[simp] theorem st_len (l : List Nat) : (st l).length = l.length := by show (l.toArray).size = _; simp
@[simp] theorem st_app (l m : List Nat) : st l ++ st m = st (l ++ m) := by show (⟨l.toArray ++ m.toArray⟩ : Str) = _; simp [st]
@[simp] theorem st_inj {l m : List Nat} : (st l = st m) = (l = m) := by
  refine propext ⟨fun h => ?_, fun h => by rw [h]⟩
  have := congrArg (fun s : Str => s.cps.toList) h
  simpa [st] using this
theorem st_of (x : Str) : x = st x.cps.toList := by obtain ⟨a⟩ := x; simp [st]
@[simp] theorem st_signs (l : List Nat) : signs (st l) = l.map fun c => .str (st [c]) := by simp [signs, st]
@[simp] theorem ap_slS (l : List Nat) (lo hi : Option Int) : gSl (.str (st l)) lo hi = if l.length ≤ sizeLine then some (.str (st (cutP l lo hi))) else none := by
  have e : cutS (st l) lo hi = st (cutP l lo hi) := by
    unfold cutS cutP
    rw [st_len]
    rfl
  show (if (st l).length ≤ sizeLine then some (PV.str (cutS (st l) lo hi)) else none) = _
  rw [st_len, e]
@[simp] theorem ap_slL (l : List PV) (lo hi : Option Int) : gSl (.lst l) lo hi = some (.lst (cutP l lo hi)) := rfl
@[simp] theorem ap_slLL (l : List PV) (lo hi : Option Int) : gSlL (.lst l) lo hi = some (.lst (cutP l lo hi)) := rfl
@[simp] theorem ap_ixSt (l : List Nat) (i : Int) : gIx (.str (st l)) (.int i) = if l.length ≤ sizeLine then (L2.atI l i).map fun c => .str (st [c]) else none := by
  rw [ap_ixS, st_len, st_cps]; rfl
theorem cutP_nat {α : Type} (l : List α) (a b : Nat) : cutP l (some (a : Int)) (some (b : Int)) = (l.take b).drop a := by
  unfold cutP
  rw [HT.sIx_nat, HT.sIx_nat, List.drop_take]
  by_cases h : a ≤ l.length
  · rw [Nat.min_eq_left h]
    by_cases h2 : b ≤ l.length
    · rw [Nat.min_eq_left h2]
    · have h3 : min b l.length = l.length := Nat.min_eq_right (by omega)
      rw [h3, List.take_of_length_le (by simp), List.take_of_length_le (by simp; omega)]
  · have h3 : min a l.length = l.length := Nat.min_eq_right (by omega)
    have h4 : l.drop a = [] := List.drop_of_length_le (by omega)
    rw [h3, h4, List.drop_of_length_le (Nat.le_refl _)]
    simp
theorem cutP_lo {α : Type} (l : List α) (a : Nat) : cutP l (some (a : Int)) none = l.drop a := by
  unfold cutP
  rw [HT.sIx_nat, HT.sIx_none]
  by_cases h : a ≤ l.length
  · rw [Nat.min_eq_left h, List.take_of_length_le (by simp)]
  · have h3 : min a l.length = l.length := Nat.min_eq_right (by omega)
    rw [h3, List.drop_of_length_le (Nat.le_refl _), List.drop_of_length_le (by omega)]; simp
theorem cutP_hi {α : Type} (l : List α) (b : Nat) : cutP l none (some (b : Int)) = l.take b := by
  unfold cutP
  rw [HT.sIx_nat, HT.sIx_none, List.drop_zero, Nat.sub_zero]
  by_cases h : b ≤ l.length
  · rw [Nat.min_eq_left h]
  · have h3 : min b l.length = l.length := Nat.min_eq_right (by omega)
    rw [h3, List.take_of_length_le (Nat.le_refl _), List.take_of_length_le (by omega)]
@[simp] theorem ap_oSome {da : Den} {ρ : Env} : oSome da ρ = (da ρ).bind fun p ρ1 => opt (p.int?.map some) ρ1 := id rfl
@[simp] theorem ap_int? (i : Int) : PV.int? (.int i) = some i := rfl
@[simp] theorem ap_dSl {g : PV → Option Int → Option Int → Option PV} {da : Den} {dl dh : DenO} {ρ : Env} : dSl g da dl dh ρ = (da ρ).bind fun p ρ1 => (dl ρ1).bind fun l ρ2 => (dh ρ2).bind fun h ρ3 => opt (g p l h) ρ3 := id rfl
@[simp] theorem ap_dSlv {g : PV → Option Int → Option Int → Option PV} {i : Nat} {dl dh : DenO} {ρ : Env} : dSlv g i dl dh ρ = match slot ρ i with
  | none => .bad
  | some _ => (dl ρ).bind fun l ρ2 => (dh ρ2).bind fun h ρ3 => match slot ρ3 i with
    | none => .bad
    | some p => opt (g p l h) ρ3 := id rfl
@[simp] theorem ap_dJoin {da db : Den} {ρ : Env} : dJoin da db ρ = (da ρ).bind fun p ρ1 => match p with
  | .str _ => (db ρ1).bind fun q ρ2 => opt (gJoin p q) ρ2
  | _ => .bad := id rfl
/-! ### equal texts, shaped values -/
def asc (l : List Nat) : Prop := ∀ c ∈ l, c < 128
theorem strOk_st {l : List Nat} (h : asc l) : PyData.strOk (st l) = true := by
  show (l.toArray).all (· < 0x110000) = true
  simp only [List.all_toArray, List.all_eq_true, decide_eq_true_eq]
  intro c hc
  have := h c hc
  omega
theorem shaped_st {l : List Nat} (h : asc l) : SeqAt.shaped (PV.toD (.str (st l))) = true := by
  have e : PyData.canLay0 (.str (st l)) = true := by simp only [PyData.canLay0]; exact strOk_st h
  simp only [SeqAt.shaped, PV.toD, e, Bool.true_and, decide_eq_true_eq, PyData.depth]
  exact Nat.zero_le _
theorem eqv_str (x y : Str) : PyData.eqv (.str x) (.str y) = decide (x = y) := by
  simp only [PyData.eqv]
  by_cases h : x = y <;> simp [h]
theorem ap_eqS {l m : List Nat} (h : asc l) (h' : asc m) : gEq (.str (st l)) (.str (st m)) = some (.bl (decide (l = m))) := by
  unfold gEq pvEq
  rw [shaped_st h, shaped_st h']
  simp only [PV.toD, eqv_str, st_inj, Bool.and_self, if_true]
theorem canAll_iff : ∀ {ps : List PV}, PyData.canLayAll0 (toDs ps) = true ↔ ∀ p ∈ ps, p.toD.canLay0 = true
  | [] => by simp [toDs, PyData.canLayAll0]
  | p :: ps => by simp [toDs, PyData.canLayAll0, canAll_iff (ps := ps)]
theorem depthAll_le {n : Nat} : ∀ {ps : List PV}, (∀ p ∈ ps, p.toD.depth ≤ n) → PyData.depthAll (toDs ps) ≤ n
  | [], _ => by simp [toDs, PyData.depthAll]
  | p :: ps, h => by
    simp only [toDs, PyData.depthAll]
    exact Nat.max_le.mpr ⟨h p List.mem_cons_self, depthAll_le fun q hq => h q (List.mem_cons_of_mem _ hq)⟩
theorem plain_lay : ∀ (n : Nat) (p : PV), okD n p = true → (plainP p).toD.canLay0 = true ∧ (plainP p).toD.depth ≤ n
  | 0, p, h => by simp [okD] at h
  | n + 1, p, h => by
    have ih := plain_lay n
    have seq : ∀ (b : Bool) (ps : List PV), okDs n ps = true → (PV.lst (.bl b :: plainPs ps)).toD.canLay0 = true ∧ (PV.lst (.bl b :: plainPs ps)).toD.depth ≤ n + 1 := by
      intro b ps h3
      have h3 := okDs_iff.mp h3
      refine ⟨?_, ?_⟩
      · simp only [PV.toD, PyData.canLay0]
        rw [canAll_iff]
        intro q hq
        rcases List.mem_cons.mp hq with e | hq
        · subst e; rfl
        · rw [plainPs_map] at hq
          obtain ⟨p, hp, e⟩ := List.mem_map.mp hq
          subst e
          exact (ih p (h3 p hp)).1
      · simp only [PV.toD, PyData.depth]
        refine Nat.succ_le_succ (depthAll_le ?_)
        intro q hq
        rcases List.mem_cons.mp hq with e | hq
        · subst e; simp [PV.toD, PyData.depth]
        · rw [plainPs_map] at hq
          obtain ⟨p, hp, e⟩ := List.mem_map.mp hq
          subst e
          exact (ih p (h3 p hp)).2
    cases p with
    | lst ps =>
      have h : ps.length ≤ 100000 ∧ okDs n ps = true := by simpa [okD] using h
      exact seq true ps h.2
    | tup ps =>
      have h : ps.length ≤ 100000 ∧ okDs n ps = true := by simpa [okD] using h
      exact seq false ps h.2
    | ktup ps =>
      have h : ps.length ≤ 100000 ∧ okDs n ps = true := by simpa [okD] using h
      exact seq false ps h.2
    | non => exact ⟨by decide +kernel, by simp [plainP, PV.toD, PyData.depth]⟩
    | bl b => cases b <;> exact ⟨by decide +kernel, by simp [plainP, PV.toD, PyData.depth]⟩
    | int i => exact ⟨by simp [plainP, PV.toD, toDs, PyData.canLay0, PyData.canLayAll0], by simp [plainP, PV.toD, toDs, PyData.depth, PyData.depthAll]⟩
    | str x =>
      have h : PyData.canLay0 (.str x) = true := by simpa [okD] using h
      exact ⟨by simp [plainP, PV.toD, toDs, PyData.canLay0, PyData.canLayAll0]; simpa [PyData.canLay0] using h, by simp [plainP, PV.toD, toDs, PyData.depth, PyData.depthAll]⟩
    | klst ps => simp [okD] at h
    | dic t ks vs => simp [okD] at h
    | fn a => simp [okD] at h
theorem plain_ne {n : Nat} {p : PV} (h : okD n p = true) (hn : n ≤ 64) : gNe (plainP p) (plainP p) = some (.bl false) := by
  obtain ⟨h1, h2⟩ := plain_lay n p h
  have h3 : SeqAt.shaped (plainP p).toD = true := by
    simp only [SeqAt.shaped, h1, Bool.true_and, decide_eq_true_eq]
    omega
  unfold gNe pvEq
  rw [h3, SeqAt.eqv_refl _ h1]
  rfl
theorem ap_plain {n : Nat} {p : PV} (h : okD n p = true) : F_plain_ n [p] = .ok (plainP p) .non := F_plain_eq n p h
end PL

set_option Elab.async false
set_option linter.all false
set_option maxRecDepth 100000
set_option maxHeartbeats 4000000
namespace PL
open PySem PySem.Spec L2
set_option autoImplicit false
section
variable {X : Cx} {W : WX} {fr : Bool} {k : Nat} {pos p p2 p3 : Pos} {e a b : Expr} {es : List Expr} {da db : Den} {dl : DenL} {x : Str} {K : PySem.W.Frag} {mg : Str → Option Value}
/-! ### whole division by greater numbers -/
def gFdivW : PV → PV → Option PV
  | .int i, .int j => if decide (0 < j) && decide (j.natAbs.log2 < 9000) then some (.int (i / j)) else none
  | _, _ => none
theorem v2_fdivW : V2 K (rI CDivW fun i j => .int (i / j)) gFdivW := by
  intro S H x y p q z Q s rx ry e k
  unfold gFdivW at e
  split at e
  · split at e
    · rename_i hz
      cases rx; cases ry; cases e
      simp only [Bool.and_eq_true, decide_eq_true_eq] at hz
      exact ⟨_, _, rfl, rfl, hz, k _ S H (Step.refl s) (.int _)⟩
    · cases e
  · cases e
abbrev dFdivW := d2 gFdivW
theorem de_fdivW (ha : DE X W a da) (hb : DE X W b db) : DE X W (.BinOp a .FloorDiv b pos) (dFdivW da db) := de_op op_fdivW v2_fdivW ha hb
/-! ### math.gcd -/
def gGcd : List PV → Option PV
  | [.int i, .int j] => some (.int ((Nat.gcd i.natAbs j.natAbs : Nat) : Int))
  | _ => none
theorem vn_gcd : VN K rGcd gGcd := by
  intro S H xs ps z Q s rx e k
  unfold gGcd at e
  split at e
  · cases e
    cases rx with
    | cons r1 r2 =>
      cases r2 with
      | cons r3 r4 =>
        cases r4; cases r1; cases r3
        exact ⟨_, _, rfl, k _ S H (Step.refl s) (.int _)⟩
  · cases e
theorem de_gcd (hm : X.mg x = some (.builtin "math.gcd")) (ha : DA X W (e :: es) dl) (hg : Gl X x := by rfl) (hdb : (x == ("__debug__" : Str)) = false := by decide)
    (he : starEach (e :: es) X.env = (false, eval e X.env) :: starEach es X.env := by rfl) (hpl : (backTo pos (starEach es X.env)).any (·.1) = false := by rfl) : DE X W (.Call (.Name x p) (e :: es) [] pos) (dN gGcd dl) :=
  DE.of (pe_callBfun cr_gcd hg hm ha hdb he hpl) (eo_n canon_ok vn_gcd)
/-! ### list(range(..)) -/
theorem rep_rg {S : Hp} (i j : Int) : RepL K S (rangeP i (j - i).toNat) (rgV i j) := by
  unfold rangeP rgV
  generalize (List.range (j - i).toNat) = l
  induction l with
  | nil => exact .nil
  | cons c l ih => exact .cons (.int _) ih
def rgOkB (i j : Int) : Bool := decide (-(2 ^ 62) ≤ i) && decide (i < 2 ^ 62) && (decide (-(2 ^ 62) ≤ j) && decide (j < 2 ^ 62)) && decide ((j - i).toNat ≤ 2 ^ 24)
theorem rgOkB_ok {i j : Int} (h : rgOkB i j = true) : RgOk i j := by
  unfold rgOkB at h
  simp only [Bool.and_eq_true, decide_eq_true_eq] at h
  obtain ⟨⟨⟨h1, h2⟩, h3, h4⟩, h5⟩ := h
  exact ⟨h1, h2, h3, h4, h5⟩
def lrg (i j : Int) (ρ : Env) : Rs PV := if rgOkB i j = true then .ok (.lst (rangeP i (j - i).toNat)) ρ else .bad
def dLR1 (da : Den) : Den := fun ρ => (da ρ).bind fun p ρ1 => match p with
  | .int j => lrg 0 j ρ1
  | _ => .bad
def dLR2 (da db : Den) : Den := fun ρ => (da ρ).bind fun p ρ1 => (db ρ1).bind fun q ρ2 => match p, q with
  | .int i, .int j => lrg i j ρ2
  | _, _ => .bad
theorem df_lr1 (c : Ctx X W k) (B : Bi X.mg) (ha : DE X W a da) (hg : Gl X "list" := by rfl) (hg2 : Gl X "range" := by rfl) (na : starEach [a] X.env = (false, eval a X.env) :: starEach [] X.env := by rfl) (nb : starEach [.Call (.Name "range" p2) [a] [] p3] X.env = (false, eval (.Call (.Name "range" p2) [a] [] p3) X.env) :: starEach [] X.env := by rfl) :
    DF X W (.Call (.Name "list" p) [.Call (.Name "range" p2) [a] [] p3] [] pos) (dLR1 da) :=
  DF.of (pe_listRg c.calm hg B.list (prg_1 hg2 B.range ha na) nb) fun H₀ S₀ M S σ H ρ Q ab hp =>
    canon_ok.bind (Rl := rV X.K) (Rl' := rF X.K) ab hp fun p ρ1 v S1 H1 _ a1 _ r1 hp => by
      cases p with
      | int j =>
        cases r1
        have hp : Post X.K X.mg W (rF X.K) H₀ S₀ M σ (lrg 0 j ρ1) Q := hp
        unfold lrg at hp
        split at hp
        · rename_i hz
          exact ⟨j, rfl, rgOkB_ok hz, fun c n => hp _ S1 _ (a1.fresh n (p := .lst _) (o := .lst _) (rep_rg 0 j)).1 (a1.fresh n (p := .lst _) (o := .lst _) (rep_rg 0 j)).2⟩
        · exact hp.elim
      | _ => exact hp.elim
theorem df_lr2 (c : Ctx X W k) (B : Bi X.mg) (ha : DE X W a da) (hb : DE X W b db) (hg : Gl X "list" := by rfl) (hg2 : Gl X "range" := by rfl) (na : starEach [a, b] X.env = (false, eval a X.env) :: starEach [b] X.env := by rfl) (nb : starEach [b] X.env = (false, eval b X.env) :: starEach [] X.env := by rfl)
    (hpl : (backTo p3 (starEach [b] X.env)).any (·.1) = false := by rfl) (nc : starEach [.Call (.Name "range" p2) [a, b] [] p3] X.env = (false, eval (.Call (.Name "range" p2) [a, b] [] p3) X.env) :: starEach [] X.env := by rfl) :
    DF X W (.Call (.Name "list" p) [.Call (.Name "range" p2) [a, b] [] p3] [] pos) (dLR2 da db) :=
  DF.of (pe_listRg c.calm hg B.list (prg_2 hg2 B.range ha hb na nb hpl) nc) fun H₀ S₀ M S σ H ρ Q ab hp =>
    canon_ok.bind (Rl := rV X.K) (Rl' := rF X.K) ab hp fun p ρ1 v S1 H1 _ a1 _ r1 hp => canon_ok.bind (Rl := rV X.K) (Rl' := rF X.K) a1 hp fun q ρ2 u S2 H2 _ a2 _ r2 hp => by
      cases p with
      | int i =>
        cases q with
        | int j =>
          cases r1; cases r2
          have hp : Post X.K X.mg W (rF X.K) H₀ S₀ M σ (lrg i j ρ2) Q := hp
          unfold lrg at hp
          split at hp
          · rename_i hz
            exact ⟨i, j, rfl, rfl, rgOkB_ok hz, fun c n => hp _ S2 _ (a2.fresh n (p := .lst _) (o := .lst _) (rep_rg i j)).1 (a2.fresh n (p := .lst _) (o := .lst _) (rep_rg i j)).2⟩
          · exact hp.elim
        | _ => exact hp.elim
      | _ => exact hp.elim
/-! ### x[::-1] of a list -/
def dRevL (da : Den) : Den := fun ρ => (da ρ).bind fun p ρ1 => match p with
  | .lst ps => .ok (.lst ps.reverse) ρ1
  | .klst ps => .ok (.lst ps.reverse) ρ1
  | _ => .bad
theorem df_revL {kk : Nat} {p1 : Pos} (ha : DE X W e da) : DF X W (.Subscript e (.Slice none none (some (.UnaryOp .USub (.Constant (.int 1) kk p1) p2)) p3) pos) (dRevL da) :=
  DF.of (pe_revL ha) fun H₀ S₀ M S σ H ρ Q ab hp => canon_ok.bind (Rl := rV X.K) (Rl' := rF X.K) ab hp fun p ρ1 v S1 H1 _ a1 _ r1 hp => by
    cases p with
    | lst ps =>
      cases r1 with
      | lst h1 h2 => exact ⟨_, _, rfl, .inl (.inl (a1.sub _ _ h1)), fun c n => hp _ S1 _ (a1.fresh n (p := .lst _) (o := .lst _) h2.reverse).1 (a1.fresh n (p := .lst _) (o := .lst _) h2.reverse).2⟩
    | klst ps =>
      cases r1 with
      | klst h1 h2 => exact ⟨_, _, rfl, Same.lstK a1.sub h1, fun c n => hp _ S1 _ (a1.fresh n (p := .lst _) (o := .lst _) h2.reverse).1 (a1.fresh n (p := .lst _) (o := .lst _) h2.reverse).2⟩
    | _ => exact hp.elim
/-! ### tuple(x) -/
def gTupOf : List PV → Option PV
  | [.lst ps] => some (.tup ps)
  | [.tup ps] => some (.tup ps)
  | [.ktup ps] => some (.ktup ps)
  | _ => none
theorem vn_tupOf : VN K (fun xs H Q => ∃ p ys, xs = [.ref p] ∧ ((SqL K H p ys ∧ ∀ l, H l = none → Q (.ref l) (upd H l (.tup ys))) ∨ (SqT K H p ys ∧ Q (.ref p) H))) gTupOf := by
  intro S H xs ps z Q s rx e k
  unfold gTupOf at e
  split at e
  · cases rx with
    | cons r1 r2 =>
      cases r2; cases e
      cases r1 with
      | lst h1 h2 => exact ⟨_, _, rfl, .inl ⟨.inl (.inl (s _ _ h1)), fun l n => k _ (upd S l (.tup _)) _ (Step.new1 s n) (.tup upd_same (h2.up (same_upd (Same.free s n))))⟩⟩
  · cases rx with
    | cons r1 r2 =>
      cases r2; cases e
      cases r1 with
      | tup h1 h2 => exact ⟨_, _, rfl, .inr ⟨.inl (.inl (s _ _ h1)), k _ S H (Step.refl s) (.tup h1 h2)⟩⟩
  · cases rx with
    | cons r1 r2 =>
      cases r2; cases e
      cases r1 with
      | ktup h1 h2 => exact ⟨_, _, rfl, .inr ⟨Same.tupK s h1, k _ S H (Step.refl s) (.ktup h1 h2)⟩⟩
  · cases e
theorem de_tupOf (B : Bi X.mg) (ha : DA X W (e :: es) dl) (hg : Gl X "tuple" := by rfl) (he : starEach (e :: es) X.env = (false, eval e X.env) :: starEach es X.env := by rfl) (hpl : (backTo pos (starEach es X.env)).any (·.1) = false := by rfl) :
    DE X W (.Call (.Name "tuple" p) (e :: es) [] pos) (dN gTupOf dl) := DE.of (pe_callTy call_tuple_of hg B.tuple (by decide +kernel) ha (by decide) (by decide) he hpl) (eo_n canon_ok vn_tupOf)
/-! ### sorted(whole numbers) -/
def insI (n : Int) : List Int → List Int
  | [] => [n]
  | m :: l => if n ≤ m then n :: m :: l else m :: insI n l
def sortI : List Int → List Int
  | [] => []
  | n :: l => insI n (sortI l)
theorem insI_perm (n : Int) : ∀ l, (insI n l).Perm (n :: l)
  | [] => .refl _
  | m :: l => by
    unfold insI
    split
    · exact .refl _
    · exact ((insI_perm n l).cons m).trans (.swap n m l)
theorem sortI_perm : ∀ l, (sortI l).Perm l
  | [] => .refl _
  | n :: l => (insI_perm n (sortI l)).trans ((sortI_perm l).cons n)
theorem insI_le {n : Int} : ∀ {l : List Int}, l.Pairwise (· ≤ ·) → (insI n l).Pairwise (· ≤ ·)
  | [], _ => by simp [insI]
  | m :: l, h => by
    have h1 := List.pairwise_cons.mp h
    unfold insI
    split
    · rename_i hz
      refine List.pairwise_cons.mpr ⟨fun a ha => ?_, h⟩
      rcases List.mem_cons.mp ha with e | e
      · rw [e]; exact hz
      · exact Int.le_trans hz (h1.1 a e)
    · rename_i hz
      refine List.pairwise_cons.mpr ⟨fun a ha => ?_, insI_le h1.2⟩
      rcases List.mem_cons.mp ((insI_perm n l).mem_iff.mp ha) with e | e
      · rw [e]; omega
      · exact h1.1 a e
theorem sortI_le : ∀ l : List Int, (sortI l).Pairwise (· ≤ ·)
  | [] => .nil
  | n :: l => insI_le (sortI_le l)
theorem sort_uniq {l m : List Int} (h : l.Perm m) (hl : l.Pairwise (· ≤ ·)) (hm : m.Pairwise (· ≤ ·)) : l = m :=
  h.eq_of_pairwise (fun a b _ _ h1 h2 => Int.le_antisymm h1 h2) hl hm
theorem ints_rep {S : Hp} : ∀ {ps : List PV} {vs : List V} {ns : List Int}, ints? ps = some ns → RepL K S ps vs → vs = ns.map V.int
  | [], _, _, e, h => by cases h; cases e; rfl
  | p :: ps, _, ns, e, h => by
    cases h with
    | cons h1 h2 =>
      cases p with
      | int i =>
        have e : (ints? ps).map (i :: ·) = some ns := e
        cases e1 : ints? ps with
        | none => rw [e1] at e; cases e
        | some ms =>
          rw [e1] at e; cases e
          cases h1
          rw [ints_rep e1 h2]; rfl
      | _ => cases e
def gSorted : List PV → Option PV
  | [.lst ps] => (ints? ps).map fun ns => .lst ((sortI ns).map .int)
  | _ => none
theorem vn_sorted : VNF K (rSortedI K) gSorted := by
  intro S H xs ps z Q s rx e k
  unfold gSorted at e
  split at e
  · rename_i ps
    cases rx with
    | cons r1 r2 =>
      cases r2
      cases r1 with
      | lst h1 h2 =>
        cases e1 : ints? ps with
        | none => rw [e1] at e; cases e
        | some ns =>
          rw [e1] at e; cases e
          have e2 := ints_rep e1 h2
          subst e2
          refine ⟨_, ns, rfl, .inl (.inl (s _ _ h1)), fun ns' q hp hs n => ?_⟩
          have e3 := sort_uniq (hp.trans (sortI_perm ns).symm) hs (sortI_le ns)
          subst e3
          exact k q (.lst _) n (repInts _)
  · cases e
theorem df_sorted (B : Bi X.mg) (ha : DA X W (e :: es) dl) (hg : Gl X "sorted" := by rfl) (he : starEach (e :: es) X.env = (false, eval e X.env) :: starEach es X.env := by rfl) (hpl : (backTo pos (starEach es X.env)).any (·.1) = false := by rfl) :
    DF X W (.Call (.Name "sorted" p) (e :: es) [] pos) (dN gSorted dl) := DF.of (pe_callB cr_sortedI hg B.sorted (by decide +kernel) ha (by decide) (by decide) he hpl) (fo_n canon_ok vn_sorted)
end
end PL

set_option Elab.async false
set_option linter.all false
set_option maxRecDepth 100000
set_option maxHeartbeats 4000000
namespace PL
open PySem PySem.Spec L2
set_option autoImplicit false
section
variable {X : Cx} {W : WX} {K : PySem.W.Frag}
/-! ### x in a tuple of flat values -/
def flat? : PV → Option V
  | .non => some .non
  | .bl b => some (.bl b)
  | .int i => some (.int i)
  | .str x => some (.str x)
  | _ => none
def flats? : List PV → Option (List V)
  | [] => some []
  | p :: ps => (flat? p).bind fun x => (flats? ps).map fun xs => x :: xs
theorem flat_rep {S : Hp} {p : PV} {v x : V} (e : flat? p = some x) (r : Rep K S p v) : v = x ∧ flatV x = true := by
  cases p <;> first | (cases e; cases r; exact ⟨rfl, rfl⟩) | cases e
theorem flats_rep {S : Hp} : ∀ {ps : List PV} {vs xs : List V}, flats? ps = some xs → RepL K S ps vs → vs = xs ∧ xs.all flatV = true
  | [], _, _, e, r => by cases r; cases e; exact ⟨rfl, rfl⟩
  | p :: ps, _, _, e, r => by
    cases r with
    | cons r1 r2 =>
      have e : ((flat? p).bind fun x => (flats? ps).map fun xs => x :: xs) = some _ := e
      cases e1 : flat? p with
      | none => rw [e1] at e; cases e
      | some x =>
        cases e2 : flats? ps with
        | none => rw [e1, e2] at e; cases e
        | some xs =>
          rw [e1, e2] at e
          cases e
          obtain ⟨h1, h2⟩ := flat_rep e1 r1
          obtain ⟨h3, h4⟩ := flats_rep e2 r2
          subst h1 h3
          exact ⟨rfl, by rw [List.all_cons, h2, h4]; rfl⟩
def gInT (neg : Bool) : PV → PV → Option PV
  | p, .tup ps => (flat? p).bind fun x => (flats? ps).map fun xs => .bl (if neg then !inV x xs else inV x xs)
  | p, .ktup ps => (flat? p).bind fun x => (flats? ps).map fun xs => .bl (if neg then !inV x xs else inV x xs)
  | _, _ => none
theorem v2_inT {neg : Bool} : V2 K (rIn K neg) (gInT neg) := by
  intro S H x y p q z Q s rx ry e k
  have key : ∀ ps : List PV, ∀ vs : List V, RepL K S ps vs → ((flat? p).bind fun x => (flats? ps).map fun xs => PV.bl (if neg then !inV x xs else inV x xs)) = some z → flatV x = true ∧ vs.all flatV = true ∧ z = .bl (if neg then !inV x vs else inV x vs) := by
    intro ps vs r e
    cases e1 : flat? p with
    | none => rw [e1] at e; cases e
    | some x' =>
      cases e2 : flats? ps with
      | none => rw [e1, e2] at e; cases e
      | some xs =>
        rw [e1, e2] at e
        cases e
        obtain ⟨h1, h2⟩ := flat_rep e1 rx
        obtain ⟨h3, h4⟩ := flats_rep e2 r
        subst h1 h3
        exact ⟨h2, h4, rfl⟩
  cases q with
  | tup ps =>
    cases ry with
    | tup h1 h2 =>
      obtain ⟨g1, g2, rfl⟩ := key ps _ h2 e
      exact ⟨_, _, rfl, .inr (.inl (.inl (s _ _ h1))), g1, g2, k _ S H (Step.refl s) (.bl _)⟩
  | ktup ps =>
    cases ry with
    | ktup h1 h2 =>
      obtain ⟨g1, g2, rfl⟩ := key ps _ h2 e
      exact ⟨_, _, rfl, .inr (Same.tupK s h1), g1, g2, k _ S H (Step.refl s) (.bl _)⟩
  | _ => cases e
theorem gInT_sc {neg : Bool} : ∀ p q z, gInT neg p q = some z → z.sc = true := by
  intro p q z e
  have key : ∀ ps : List PV, ((flat? p).bind fun x => (flats? ps).map fun xs => PV.bl (if neg then !inV x xs else inV x xs)) = some z → z.sc = true := by
    intro ps e
    cases e1 : flat? p with
    | none => rw [e1] at e; cases e
    | some x' =>
      cases e2 : flats? ps with
      | none => rw [e1, e2] at e; cases e
      | some xs => rw [e1, e2] at e; cases e; rfl
  cases q with
  | tup ps => exact key ps e
  | ktup ps => exact key ps e
  | _ => cases e
theorem cr_inT : CmpR X .In (rIn X.K false) (gInT false) := ⟨op_in_seq, v2_inT, gInT_sc⟩
theorem cr_notInT : CmpR X .NotIn (rIn X.K true) (gInT true) := ⟨op_notIn_seq, v2_inT, gInT_sc⟩
/-! ### tuples of the module -/
def fltB : PV → Value → Bool
  | .non, .none => true
  | .bl b, .bool c => b == c
  | .int i, .int j _ => i == j
  | .str x, .str y _ => x == y
  | _, _ => false
def fltsB : List PV → List Value → Bool
  | [], [] => true
  | p :: ps, v :: vs => fltB p v && fltsB ps vs
  | _, _ => false
theorem fltB_ok {S : Hp} {p : PV} {u : Value} (h : fltB p u = true) : ∃ v, RelV v u ∧ Rep K S p v := by
  unfold fltB at h
  split at h
  · exact ⟨.non, rfl, .non⟩
  · rw [beq_iff_eq] at h; subst h; exact ⟨.bl _, rfl, .bl _⟩
  · rw [beq_iff_eq] at h; subst h; exact ⟨.int _, ⟨_, rfl⟩, .int _⟩
  · rw [beq_iff_eq] at h; subst h; exact ⟨.str _, ⟨_, rfl⟩, .str _⟩
  · cases h
theorem fltsB_ok {S : Hp} : ∀ {ps : List PV} {us : List Value}, fltsB ps us = true → ∃ vs, Vals vs us ∧ RepL K S ps vs
  | [], [], _ => ⟨[], .nil, .nil⟩
  | [], _ :: _, h => by cases h
  | _ :: _, [], h => by cases h
  | p :: ps, u :: us, h => by
    have h : fltB p u = true ∧ fltsB ps us = true := (Bool.and_eq_true _ _).mp h
    obtain ⟨v, h1, h2⟩ := fltB_ok (K := K) (S := S) h.1
    obtain ⟨vs, h3, h4⟩ := fltsB_ok h.2
    exact ⟨v :: vs, .cons h1 h3, .cons h2 h4⟩
def ktupB (K : PySem.W.Frag) (x : Str) (ps : List PV) : Bool := He.eqO (PySem.W.nsIn K mainGlobals x) (some (some (.ref (He.ga K x)))) && (match K.lookup (He.ga K x) with
  | some ⟨.type c, _, .seq its _, _⟩ => c == "tuple" && (decide (its.size ≤ sizeLine) && fltsB ps its.toList)
  | _ => false)
theorem ktupB_ok {ps : List PV} {x : Str} {h : Heap} {mg : Str → Option Value} (X : K.In h) (G : h.Ns mainGlobals mg) (hb : ktupB K x ps = true) : mg x = some (.ref (He.ga K x)) ∧ ∀ S, Rep K S (.ktup ps) (.ref (He.ga K x)) := by
  obtain ⟨h1, h2⟩ := (Bool.and_eq_true _ _).mp hb
  refine ⟨PySem.W.mg_of X G (He.eqO_ok h1), fun S => ?_⟩
  split at h2
  · rename_i c dd its n sl e
    simp only [Bool.and_eq_true, decide_eq_true_eq, beq_iff_eq] at h2
    obtain ⟨hc, hz, hf⟩ := h2
    subst hc
    obtain ⟨vs, h3, h4⟩ := fltsB_ok (K := K) (S := S) hf
    exact .ktup (.inr ⟨_, its, n, e, rfl, rfl, hz, h3⟩) h4
  · cases h2
/-- a module's name of a built-in function -/
def bltB (K : PySem.W.Frag) (x : Str) (id : String) : Bool := He.eqO (PySem.W.nsIn K mainGlobals x) (some (some (.builtin id)))
theorem bltB_ok {x : Str} {id : String} {h : Heap} {mg : Str → Option Value} (X : K.In h) (G : h.Ns mainGlobals mg) (hb : bltB K x id = true) : mg x = some (.builtin id) := PySem.W.mg_of X G (He.eqO_ok hb)
end
end PL

set_option Elab.async false
set_option linter.all false
set_option maxRecDepth 100000
set_option maxHeartbeats 4000000
namespace PL
open PySem PySem.Spec L2
set_option autoImplicit false
/-- a measure: the number in a slot -/
def muI (i : Nat) (ρ : Env) : Nat := match (ρ[i]? : Option Sl) with
  | some (.sh (.int j)) => j.natAbs + 2
  | _ => 0
section
variable {X : Cx} {W : WX} {fr : Bool} {k : Nat} {pos : Pos} {a b : Expr} {dl : DenL} {x y : Str}
/-! ### a, b = e, f -/
def sPar (i j : Nat) (dl : DenL) : DenS := fun ρ => (dl ρ).bindS fun ps ρ1 => match ps with
  | [p, q] => .nx ((ρ1.set i (.sh p)).set j (.sh q))
  | _ => .bad
theorem ds_par {px py pt pt2 : Pos} {kt k2 : Nat} (c : Ctx X W k) (i j : Nat) (ha : DA X W [a, b] dl) (hij : i ≠ j := by decide) (hi : X.N[i]? = some x := by rfl) (hj : X.N[j]? = some y := by rfl) (hx : X.env.scope.names.lookup x = some .local := by rfl) (hy : X.env.scope.names.lookup y = some .local := by rfl)
    (hw : swappedStores [.Tuple [.Name x px, .Name y py] kt pt] (.Tuple [a, b] k2 pt2) X.env = pure (some [x, y]) := by rfl) (hs : swapsWithSole [.Tuple [.Name x px, .Name y py] kt pt] (.Tuple [a, b] k2 pt2) pos.line X.env = pure false := by rfl) :
    DS X W fr (.Assign [.Tuple [.Name x px, .Name y py] kt pt] (.Tuple [a, b] k2 pt2) pos) (sPar i j dl) :=
  DS.of (ps_par c.calm c.nd hi hj hij hx hy ha hw hs) fun H₀ S₀ M S σ H ρ D ab hp => XOk.bindS (Rl := rL X.K) canon_ok ab hp fun ps ρ1 vs S1 H1 _ a1 _ r1 hp => by
    have r1 : RepL X.K S1 ps vs := r1
    cases r1 with
    | nil => exact hp.elim
    | cons g1 r2 =>
      cases r2 with
      | nil => exact hp.elim
      | cons g2 r3 =>
        cases r3 with
        | nil => exact ⟨_, _, rfl, hp S1 _ H1 ((a1.setSh g1).setSh g2)⟩
        | cons g3 r4 => exact hp.elim
@[simp] theorem ap_sPar {i j : Nat} {ρ : Env} : sPar i j dl ρ = (dl ρ).bindS fun ps ρ1 => match ps with
  | [p, q] => .nx ((ρ1.set i (.sh p)).set j (.sh q))
  | _ => .bad := id rfl
@[simp] theorem ap_fdivW (i j : Int) : gFdivW (.int i) (.int j) = if decide (0 < j) && decide (j.natAbs.log2 < 9000) then some (.int (i / j)) else none := id rfl
@[simp] theorem ap_gcd (i j : Int) : gGcd [.int i, .int j] = some (.int ((Nat.gcd i.natAbs j.natAbs : Nat) : Int)) := id rfl
@[simp] theorem ap_dLR1 {da : Den} {ρ : Env} : dLR1 da ρ = (da ρ).bind fun p ρ1 => match p with
  | .int j => lrg 0 j ρ1
  | _ => .bad := id rfl
@[simp] theorem ap_dLR2 {da db : Den} {ρ : Env} : dLR2 da db ρ = (da ρ).bind fun p ρ1 => (db ρ1).bind fun q ρ2 => match p, q with
  | .int i, .int j => lrg i j ρ2
  | _, _ => .bad := id rfl
theorem lrg_ok {i j : Int} {ρ : Env} (h1 : -10000000 ≤ i) (h2 : i ≤ 10000000) (h3 : -10000000 ≤ j) (h4 : j ≤ 10000000) (h5 : j - i ≤ 10000000) : lrg i j ρ = .ok (.lst (rangeP i (j - i).toNat)) ρ := by
  unfold lrg
  rw [if_pos]
  unfold rgOkB
  simp only [Bool.and_eq_true, decide_eq_true_eq]
  omega
@[simp] theorem ap_dRevL {da : Den} {ρ : Env} : dRevL da ρ = (da ρ).bind fun p ρ1 => match p with
  | .lst ps => .ok (.lst ps.reverse) ρ1
  | .klst ps => .ok (.lst ps.reverse) ρ1
  | _ => .bad := id rfl
@[simp] theorem ap_tupOfL (ps : List PV) : gTupOf [.lst ps] = some (.tup ps) := id rfl
@[simp] theorem ap_tupOfT (ps : List PV) : gTupOf [.tup ps] = some (.tup ps) := id rfl
end
end PL

set_option Elab.async false
set_option linter.all false
set_option maxRecDepth 100000
set_option maxHeartbeats 4000000
namespace PL
open PySem PySem.Spec L2
open PyProof.Rows hiding St
set_option autoImplicit false
/-! ### set(xs) of a list of whole numbers -/
abbrev eSet (w : World) : Obj := { cls := .type "set", dict := none, data := .set #[] 0 (.fresh 0 0 (!w.params.followText "set-order")) }
section
variable {P : Program} {w : World} {A : Around} {E : Value → Shared → Prop} {s : Shared}
set_option maxHeartbeats 3200000 in
theorem set_of_ints {l : Addr} {vs : Array Value} (ns : List Int) {Q : Value → Shared → Prop} (hcalm : A.handled = none) (hL : s.heap.IsList l vs) (hI : IntsAre vs.toList ns) (hroom : ns.length + 1 < scanBound)
    (K : ∀ (h2 : Heap) (tk c : Nat), SetR w h2 s.heap.objs.size (fun j => decide (j ∈ ns)) c → c ≤ ns.length → (∀ b o, s.heap.get? b = some o → h2.get? b = some o) → Q (.ref s.heap.objs.size) { s with heap := h2, toks := tk }) :
    wpAny (model P w) A (call (.type "set") [.ref l]) Q E s := by
  have size_eq : vs.size = ns.length := by rw [← IntsAre.length hI, Array.length_toList]
  obtain ⟨c, tl, hmro⟩ := F.called_set.mro
  have f1 := F.called_set.made
  have f2 := F.called_set.sub
  refine wpAny_call (codeAny_of_tree ?_)
  show wpAny _ _ (callAny (.type "set") _) _ _ _
  refine wpAny_pure ⟨Code.quiet_builtin _ (by decide +kernel), codeAny_builtin F.entry_type_call ?_⟩
  rw [Around.under_plain (weight_type_call_type "set" [.ref l] []) rfl]
  have f3 := F.called_set.notType
  have f4 := F.called_set.canCreate
  have f5 := F.typeCall_set_1 (.ref l)
  repeat (any_goals (first | assumption | wp_step))
  refine codeAny_mono (code_set_led1 (.ref l) (E := E) (Q₁ := fun obj s₁ => obj = .ref s.heap.objs.size ∧ s₁ = { s with heap := s.heap.push (eSet w) }) ⟨rfl, rfl⟩) fun r s₁ hr => ?_
  cases r with
  | error e => exact hr
  | ok fl =>
    cases fl with
    | ret obj =>
      obtain ⟨rfl, rfl⟩ := hr
      have hS : (s.heap.push (eSet w)).get? s.heap.objs.size = some (eSet w) := Heap.get?_push_size _ rfl
      have hT : Shared.TypeIs { s with heap := s.heap.push (eSet w) } (.ref s.heap.objs.size) "set" := ⟨_, hS, rfl⟩
      have f6 := F.called_set.init.lookup
      have f7 := F.called_set.init.bind (.ref s.heap.objs.size)
      repeat (any_goals (first | assumption | wp_step))
      refine codeAny_mono (codeAny_call_builtin (R := wants (fun r s₂ => r = .none ∧ ∃ h2 tk c, s₂ = { s with heap := h2, toks := tk } ∧ SetR w h2 s.heap.objs.size (fun j => decide (j ∈ ns)) c ∧ c ≤ ns.length ∧
          (∀ b o, s.heap.get? b = some o → h2.get? b = some o)) E) F.called_set.init.plain F.entry_set_init (check_set_init_1 hT ?_)) fun r₂ s₂ hr₂ => ?_
      · obtain ⟨⟨ocls, odict, odata, oslots⟩, hol, hcl, nl, hdl⟩ := hL
        simp only at hcl hdl
        subst hcl; subst hdl
        have hol2 : (s.heap.push (eSet w)).get? l = some { cls := .type "list", dict := odict, data := .seq vs nl, slots := oslots } := Heap.get?_push_of_some _ hol
        have g1 := F.sub_list_set
        have g2 := F.sub_list_frozenset
        have g3 : (Value.type "list" == Value.type "dict") = false := by decide
        have hL2 : (s.heap.push (eSet w)).IsList l vs := ⟨_, hol2, rfl, nl, rfl⟩
        unfold Builtin.«set.__init__» noKeywords Builtin.Frozenset.updateFrom
        generalize hPI : pyIter = PI
        wp_walk
        subst hPI
        refine wpAny_pyIter_list hL2 ?_
        refine wpAny_bind (wpAny_runValue ?_)
        have lt0 : l < s.heap.objs.size := Heap.lt_size hol
        have calm3 : A.in1.in1.in1.handled = none := by simp [hcalm]
        have sz1 : (s.heap.push (eSet w)).objs.size = s.heap.objs.size + 1 := Heap.size_push ..
        have ne1 : l ≠ (s.heap.push (eSet w)).objs.size := by rw [sz1]; exact Nat.ne_of_lt (Nat.lt_succ_of_lt lt0)
        have ne2 : s.heap.objs.size ∉ [(s.heap.push (eSet w)).objs.size, l] := by
          rw [sz1]; simp only [List.mem_cons, List.mem_singleton, List.not_mem_nil, or_false, not_or]
          exact ⟨Nat.ne_of_lt (Nat.lt_succ_self _), Nat.ne_of_gt lt0⟩
        have val : ∀ (i : Nat) (v : Value), vs[i]? = some v → ∃ k t, ns[i]? = some k ∧ v = .int k t := fun i v hv => by
          have hi : i < ns.length := by rw [← size_eq]; exact (Array.getElem?_eq_some_iff.mp hv).1
          obtain ⟨t, e⟩ := IntsAre.int_at hI i v (by rw [Array.getElem?_toList]; exact hv)
          refine ⟨ns[i], t, List.getElem?_eq_getElem hi, ?_⟩
          rw [e, List.getD_eq_getElem?_getD, List.getElem?_eq_getElem hi] <;> rfl
        refine set_update_ints ((Walks.list calm3 _ l ne1 vs).toS) s.heap.objs.size ne2 ns size_eq hroom val (vs.size - 0) 0 _ (by omega) (Nat.zero_le _)
          ⟨⟨_, Heap.get?_push_size _ rfl, rfl, rfl⟩, (hL2.push _)⟩ ⟨0, Nat.le_refl 0, setR_new_at (Heap.get?_push_of_some _ hS)⟩ ?_
        intro s3 c3 hm hc3 hS3
        obtain ⟨h3, g3, d3, tk3, os3⟩ := s3
        have eg : g3 = s.gens := hm.gens
        have ed : d3 = s.drawn := hm.drawn
        have eo : os3 = s.os := hm.os
        subst eg; subst ed; subst eo
        show wpAny _ _ _ _ _ _
        refine wpAny_pure ?_
        show wpAny _ _ (ret Value.none) _ _ _
        rw [size_eq] at hc3
        refine wpAny_pure ⟨rfl, h3, tk3, c3, rfl, hS3, hc3, fun b o e => ?_⟩
        have hb0 : b < s.heap.objs.size := Heap.lt_size e
        refine hm.heap b o ?_ (Heap.get?_push_of_some _ (Heap.get?_push_of_some _ e))
        simp only [List.mem_cons, List.mem_singleton, List.not_mem_nil, or_false, not_or]
        exact ⟨Nat.ne_of_lt hb0, by rw [sz1]; exact Nat.ne_of_lt (Nat.lt_succ_of_lt hb0)⟩
      · cases r₂ with
        | error e => exact hr₂
        | ok fl₂ =>
          cases fl₂ with
          | ret r =>
            obtain ⟨rfl, h2, tk, c, rfl, a1, a2, a3⟩ := hr₂
            repeat (any_goals (first | assumption | wp_step))
            exact K _ _ _ a1 a2 a3
          | _ => exact hr₂.elim
    | _ => exact hr.elim
end
/-! ### sorted, every number once -/
def insU (n : Int) : List Int → List Int
  | [] => [n]
  | m :: l => if n < m then n :: m :: l else if n = m then m :: l else m :: insU n l
def sortU : List Int → List Int
  | [] => []
  | n :: l => insU n (sortU l)
theorem insU_mem {n k : Int} : ∀ {l : List Int}, k ∈ insU n l ↔ k = n ∨ k ∈ l
  | [] => by simp [insU]
  | m :: l => by
    unfold insU
    split
    · simp
    · split
      · rename_i h
        subst h
        simp
      · simp only [List.mem_cons, insU_mem (l := l)]
        constructor
        · rintro (h | h | h) <;> simp [h]
        · rintro (h | h | h) <;> simp [h]
theorem sortU_mem {k : Int} : ∀ {l : List Int}, k ∈ sortU l ↔ k ∈ l
  | [] => by simp [sortU]
  | n :: l => by simp [sortU, insU_mem, sortU_mem (l := l)]
theorem insU_lt {n : Int} : ∀ {l : List Int}, l.Pairwise (· < ·) → (insU n l).Pairwise (· < ·)
  | [], _ => by simp [insU]
  | m :: l, h => by
    have h1 := List.pairwise_cons.mp h
    unfold insU
    split
    · rename_i hz
      refine List.pairwise_cons.mpr ⟨fun a ha => ?_, h⟩
      rcases List.mem_cons.mp ha with e | e
      · rw [e]; exact hz
      · exact Int.lt_trans hz (h1.1 a e)
    · split
      · exact h
      · rename_i hz hn
        refine List.pairwise_cons.mpr ⟨fun a ha => ?_, insU_lt h1.2⟩
        rcases insU_mem.mp ha with e | e
        · rw [e]; omega
        · exact h1.1 a e
theorem sortU_lt : ∀ l : List Int, (sortU l).Pairwise (· < ·)
  | [] => .nil
  | n :: l => insU_lt (sortU_lt l)
theorem sortU_nodup (l : List Int) : (sortU l).Nodup := (sortU_lt l).imp fun h => by omega
theorem perm_of_nodup {l m : List Int} (hl : l.Nodup) (hm : m.Nodup) (h : ∀ k, k ∈ l ↔ k ∈ m) : l.Perm m := (List.perm_ext_iff_of_nodup hl hm).mpr h
theorem sortU_uniq {l m : List Int} (h : m.Pairwise (· < ·)) (e : ∀ k, k ∈ m ↔ k ∈ l) : m = sortU l :=
  (perm_of_nodup (h.imp fun h => by omega) (sortU_nodup l) fun k => (e k).trans sortU_mem.symm).eq_of_pairwise (fun a b _ _ h1 h2 => absurd h1 (by omega)) h (sortU_lt l)
theorem insU_len (n : Int) : ∀ l : List Int, (insU n l).length ≤ l.length + 1
  | [] => by simp [insU]
  | m :: l => by
    unfold insU
    split
    · simp
    · split
      · simp
      · have := insU_len n l
        simp; omega
theorem sortU_len : ∀ l : List Int, (sortU l).length ≤ l.length
  | [] => Nat.le_refl _
  | n :: l => by
    have h1 := insU_len n (sortU l)
    have h2 := sortU_len l
    simp only [sortU, List.length_cons]
    omega
section
variable {X : Cx} {W : WX} {fr : Bool} {k : Nat} {pos p p2 p3 : Pos} {e a b : Expr} {es : List Expr} {da db : Den} {x : Str}
def rSetI (K : PySem.W.Frag) (w : World) : List V → Hp → VK → Prop := fun xs H Q => ∃ (l : Addr) (ns : List Int), xs = [.ref l] ∧ SqL K H l (ns.map V.int) ∧ ns.length ≤ 4000 ∧
  ∀ p, H p = none → Q (.ref p) (upd H p (SetO w p (fun j => decide (j ∈ ns)) (sortU ns).length))
theorem cr_setI (hc : X.calm = true) : CallR X (.type "set") (rSetI X.K X.w) := by
  intro pins s σ H xs us Q I r h
  obtain ⟨l, ns, rfl, hq, hl, q⟩ := h
  rw [Vals.ref1 r]
  obtain ⟨its, rv, pl, hz⟩ := I.list hq
  refine set_of_ints ns (I.ok.hd hc) pl.isList (by simpa using rv.ints) (by unfold scanBound; omega) fun h2 tk c hS hc2 hk => ?_
  have ec : c = (sortU ns).length := by
    obtain ⟨o, es, ep, t, _, _, _, _, nd, mem, _, _, sz, _⟩ := hS
    have e1 := (perm_of_nodup nd (sortU_nodup ns) fun k => by rw [← mem k, sortU_mem]; simp).length_eq
    rw [List.length_map, Array.length_toList] at e1
    omega
  subst ec
  exact ⟨.ref _, upd H s.heap.objs.size (SetO X.w s.heap.objs.size (fun j => decide (j ∈ ns)) (sortU ns).length), I.laid (t' := tk) hk (Nat.le_refl _) (setO_new hS), rfl, q _ (I.hok.fresh (Nat.le_refl _))⟩
def rLenSet (w : World) : List V → Hp → VK → Prop := fun xs H Q => ∃ (a : Addr) (S : Int → Bool) (n : Nat), xs = [.ref a] ∧ H a = some (SetO w a S n) ∧ n ≤ 4000 ∧ Q (.int (n : Nat)) H
theorem cr_lenSet : CallR X (.builtin "len") (rLenSet X.w) := by
  intro pins s σ H xs us Q I r h
  obtain ⟨a, S, n, rfl, ha, hn, q⟩ := h
  rw [Vals.ref1 r]
  obtain ⟨o, es, ep, t, ho, hex, hd, _, _, _, _, hf, sz, _⟩ := setO_get I ha
  exact call_len_set ho hex hd hf (by omega) ⟨.int n, H, I.tok _, ⟨_, by rw [sz]⟩, q⟩
def intsOf (p : PV) : Option (List Int) := match p with
  | .lst ps => ints? ps
  | _ => none
def dSortSet (da : Den) : Den := fun ρ => (da ρ).bind fun p ρ1 => match intsOf p with
  | some ns => if ns.length ≤ 4000 ∧ (sortU ns).length < 64 then .ok (.lst ((sortU ns).map .int)) ρ1 else .bad
  | none => .bad
def dLenSet (da : Den) : Den := fun ρ => (da ρ).bind fun p ρ1 => match intsOf p with
  | some ns => if ns.length ≤ 4000 then .ok (.int (sortU ns).length) ρ1 else .bad
  | none => .bad
theorem df_sortSet (c : Ctx X W k) (B : Bi X.mg) (ha : DE X W a da) (hg : Gl X "sorted" := by rfl) (hg2 : Gl X "set" := by rfl) (na : starEach [a] X.env = (false, eval a X.env) :: starEach [] X.env := by rfl) (nb : starEach [.Call (.Name "set" p2) [a] [] p3] X.env = (false, eval (.Call (.Name "set" p2) [a] [] p3) X.env) :: starEach [] X.env := by rfl) :
    DF X W (.Call (.Name "sorted" p) [.Call (.Name "set" p2) [a] [] p3] [] pos) (dSortSet da) :=
  DF.of (pe_callB (cr_sortedSet c.calm) hg B.sorted (by decide +kernel) (pa_cons (pe_callTy (cr_setI c.calm) hg2 B.set (by decide +kernel) (pa_cons ha pa_nil na) (by decide) (by decide) na rfl) pa_nil nb) (by decide) (by decide) nb rfl) fun H₀ S₀ M S σ H ρ Q ab hp =>
    canon_ok.bind (Rl := rV X.K) (Rl' := rF X.K) ab hp fun q ρ1 v S1 H1 _ a1 _ r1 hp => by
      have r1 : Rep X.K S1 q v := r1
      cases e1 : intsOf q with
      | none => simp only [e1] at hp; exact hp.elim
      | some ns =>
        simp only [e1] at hp
        split at hp
        · rename_i hz
          unfold intsOf at e1
          split at e1
          · cases r1 with
            | lst h1 h2 =>
              have e2 := ints_rep e1 h2
              subst e2
              refine ⟨_, ns, rfl, .inl (.inl (a1.sub _ _ h1)), hz.1, fun b n => ?_⟩
              refine ⟨b, _, _, rfl, upd_same, hz.2, fun ms c hs hm _ n2 => ?_⟩
              have e3 := sortU_uniq hs (l := ns) fun k => by rw [hm k]; simp
              subst e3
              have a2 := a1.step (Step.hid (o := SetO X.w b (fun j => decide (j ∈ ns)) (sortU ns).length) a1.sub n)
              exact hp _ S1 _ (a2.fresh n2 (p := .lst _) (o := .lst _) (repInts _)).1 (a2.fresh n2 (p := .lst _) (o := .lst _) (repInts _)).2
          · cases e1
        · exact hp.elim
theorem de_lenSet (c : Ctx X W k) (B : Bi X.mg) (ha : DE X W a da) (hg : Gl X "len" := by rfl) (hg2 : Gl X "set" := by rfl) (na : starEach [a] X.env = (false, eval a X.env) :: starEach [] X.env := by rfl) (nb : starEach [.Call (.Name "set" p2) [a] [] p3] X.env = (false, eval (.Call (.Name "set" p2) [a] [] p3) X.env) :: starEach [] X.env := by rfl) :
    DE X W (.Call (.Name "len" p) [.Call (.Name "set" p2) [a] [] p3] [] pos) (dLenSet da) :=
  DE.of (pe_callB cr_lenSet hg B.len (by decide +kernel) (pa_cons (pe_callTy (cr_setI c.calm) hg2 B.set (by decide +kernel) (pa_cons ha pa_nil na) (by decide) (by decide) na rfl) pa_nil nb) (by decide) (by decide) nb rfl) fun H₀ S₀ M S σ H ρ Q ab hp =>
    canon_ok.bind (Rl := rV X.K) (Rl' := rV X.K) ab hp fun q ρ1 v S1 H1 _ a1 _ r1 hp => by
      have r1 : Rep X.K S1 q v := r1
      cases e1 : intsOf q with
      | none => simp only [e1] at hp; exact hp.elim
      | some ns =>
        simp only [e1] at hp
        split at hp
        · rename_i hz
          unfold intsOf at e1
          split at e1
          · cases r1 with
            | lst h1 h2 =>
              have e2 := ints_rep e1 h2
              subst e2
              refine ⟨_, ns, rfl, .inl (.inl (a1.sub _ _ h1)), hz, fun b n => ?_⟩
              have a2 := a1.step (Step.hid (o := SetO X.w b (fun j => decide (j ∈ ns)) (sortU ns).length) a1.sub n)
              exact ⟨b, _, _, rfl, upd_same, Nat.le_trans (sortU_len ns) hz, hp _ S1 _ a2 (.int _)⟩
          · cases e1
        · exact hp.elim
@[simp] theorem ap_dSortSet {ρ : Env} : dSortSet da ρ = (da ρ).bind fun p ρ1 => match intsOf p with
  | some ns => if ns.length ≤ 4000 ∧ (sortU ns).length < 64 then .ok (.lst ((sortU ns).map .int)) ρ1 else .bad
  | none => .bad := id rfl
@[simp] theorem ap_dLenSet {ρ : Env} : dLenSet da ρ = (da ρ).bind fun p ρ1 => match intsOf p with
  | some ns => if ns.length ≤ 4000 then .ok (.int (sortU ns).length) ρ1 else .bad
  | none => .bad := id rfl
end
end PL

set_option Elab.async false
set_option linter.all false
set_option maxRecDepth 100000
set_option maxHeartbeats 4000000
namespace PL
open PySem PySem.Spec L2
set_option autoImplicit false
/-! ### a body, statement by statement -/
theorem sq_step {a b : DenS} {ρ ρ1 : Env} {r : RS} (h : a ρ = .nx ρ1) (h2 : b ρ1 = r) : sSeq a b ρ = r := by rw [seq_nx h]; exact h2
theorem szn {n : Nat} (h : n ≤ 1000000) : n ≤ sizeLine := by rw [sizeLine_eq]; omega
theorem szl {n : Nat} (h : n ≤ 1000000) : n < sizeLine := by rw [sizeLine_eq]; omega
theorem smI {i : Int} (h1 : -1000000000000000000 ≤ i) (h2 : i ≤ 1000000000000000000) : smallI i = true := by
  unfold smallI
  simp only [Bool.and_eq_true, decide_eq_true_eq]
  omega
theorem tkn {ds : List Int} {m : Nat} (h : 0 < m) : ∃ v : Nat, v < m ∧ (tk ds m).1 = v := by
  have h1 := tk_lt (ds := ds) (m := (m : Int)) (by omega)
  obtain ⟨v, hv⟩ := Int.eq_ofNat_of_zero_le h1.1
  exact ⟨v, by omega, hv⟩
theorem take_nat (ds : List Int) (m : Nat) (h : 0 < m) : ∃ (v : Nat) (ds' : List Int), v < m ∧ F_take [dk ds, .int (m : Int)] = .ok (.int (v : Int)) (dk ds') := by
  obtain ⟨v, h1, h2⟩ := tkn (ds := ds) h
  exact ⟨v, _, h1, by rw [F_take_eq (by omega), h2]⟩
theorem take_int (ds : List Int) (m : Int) (h : 0 < m) : ∃ (v : Int) (ds' : List Int), 0 ≤ v ∧ v < m ∧ F_take [dk ds, .int m] = .ok (.int v) (dk ds') := by
  have h1 := tk_lt (ds := ds) (m := m) h
  exact ⟨_, _, h1.1, h1.2, F_take_eq h⟩
/-! ### comprehensions without an effect -/
theorem lc_mapG {own : List Nat} {tg : DenG} {E : Den} {α : Type} (g f : α → PV) (ρ : Env) : ∀ (l : List α), (∀ c ∈ l, ∃ ρ1 ρ2, tg (g c) ρ = some ρ1 ∧ E ρ1 = .ok (f c) ρ2 ∧ noOw ρ2 = true ∧ wipeE own ρ2 = ρ) → lcLoop own tg bYes E (l.map g) ρ = some (l.map f, ρ)
  | [], _ => rfl
  | c :: l, h => by
    obtain ⟨ρ1, ρ2, h1, h2, h3, h4⟩ := h c List.mem_cons_self
    have ih := lc_mapG (own := own) (tg := tg) (E := E) g f ρ l fun d hd => h d (List.mem_cons_of_mem _ hd)
    rw [List.map_cons, lcLoop]
    simp only [h1, h2, h3, if_true, h4, ap_bYes, ih, List.map_cons]
theorem lc_filter {own : List Nat} {tg : DenG} {T : DenB} {E : Den} {α : Type} (g f : α → PV) (t : α → Bool) (ρ : Env) : ∀ (l : List α), (∀ c ∈ l, ∃ ρ1 ρ2, tg (g c) ρ = some ρ1 ∧ T ρ1 = .ok (t c) ρ2 ∧ if t c = true then ∃ ρ3, E ρ2 = .ok (f c) ρ3 ∧ noOw ρ3 = true ∧ wipeE own ρ3 = ρ else noOw ρ2 = true ∧ wipeE own ρ2 = ρ) → lcLoop own tg T E (l.map g) ρ = some ((l.filter t).map f, ρ)
  | [], _ => rfl
  | c :: l, h => by
    obtain ⟨ρ1, ρ2, h1, h2, h3⟩ := h c List.mem_cons_self
    have ih := lc_filter (own := own) (tg := tg) (T := T) (E := E) g f t ρ l fun d hd => h d (List.mem_cons_of_mem _ hd)
    rw [List.map_cons, lcLoop]
    cases ht : t c with
    | true =>
      rw [if_pos ht] at h3
      obtain ⟨ρ3, h4, h5, h6⟩ := h3
      simp only [h1, h2, ht, h4, h5, if_true, h6, ih, List.filter_cons, List.map_cons]
    | false =>
      rw [if_neg (by simp [ht])] at h3
      simp only [h1, h2, ht, h3.1, if_true, h3.2, ih, List.filter_cons, Bool.false_eq_true, if_false]
theorem ints_map : ∀ l : List Int, ints? (l.map .int) = some l
  | [] => rfl
  | i :: l => by simp [ints?, ints_map l]
theorem ints_mapF {α : Type} (f : α → Int) : ∀ l : List α, ints? (l.map fun c => PV.int (f c)) = some (l.map f)
  | [] => rfl
  | i :: l => by simp [ints?, ints_mapF f l]
theorem rangeP_map (lo : Int) (n : Nat) : rangeP lo n = (List.range n).map fun i => PV.int (lo + (i : Nat)) := rfl
/-! ### equal data -/
theorem okD_lay : ∀ (n : Nat) (p : PV), okD n p = true → p.toD.canLay0 = true ∧ p.toD.depth ≤ n
  | 0, p, h => by simp [okD] at h
  | n + 1, p, h => by
    have ih := okD_lay n
    have seq : ∀ (ps : List PV), okDs n ps = true → (PV.lst ps).toD.canLay0 = true ∧ (PV.lst ps).toD.depth ≤ n + 1 ∧ (PV.tup ps).toD.canLay0 = true ∧ (PV.tup ps).toD.depth ≤ n + 1 := by
      intro ps h3
      have h3 := okDs_iff.mp h3
      have h4 : PyData.canLayAll0 (toDs ps) = true := canAll_iff.mpr fun q hq => (ih q (h3 q hq)).1
      have h5 : PyData.depthAll (toDs ps) ≤ n := depthAll_le fun q hq => (ih q (h3 q hq)).2
      refine ⟨?_, ?_, ?_, ?_⟩
      · simp only [PV.toD, PyData.canLay0]; exact h4
      · simp only [PV.toD, PyData.depth]; omega
      · simp only [PV.toD, PyData.canLay0]; exact h4
      · simp only [PV.toD, PyData.depth]; omega
    cases p with
    | lst ps =>
      have h : ps.length ≤ 100000 ∧ okDs n ps = true := by simpa [okD] using h
      exact ⟨(seq ps h.2).1, (seq ps h.2).2.1⟩
    | tup ps =>
      have h : ps.length ≤ 100000 ∧ okDs n ps = true := by simpa [okD] using h
      exact ⟨(seq ps h.2).2.2.1, (seq ps h.2).2.2.2⟩
    | ktup ps =>
      have h : ps.length ≤ 100000 ∧ okDs n ps = true := by simpa [okD] using h
      exact ⟨(seq ps h.2).2.2.1, (seq ps h.2).2.2.2⟩
    | non => exact ⟨by decide +kernel, by simp [PV.toD, PyData.depth]⟩
    | bl b => cases b <;> exact ⟨by decide +kernel, by simp [PV.toD, PyData.depth]⟩
    | int i => exact ⟨by simp [PV.toD, PyData.canLay0], by simp [PV.toD, PyData.depth]⟩
    | str x =>
      have h : PyData.canLay0 (.str x) = true := by simpa [okD] using h
      exact ⟨by simpa [PV.toD] using h, by simp [PV.toD, PyData.depth]⟩
    | klst ps => simp [okD] at h
    | dic t ks vs => simp [okD] at h
    | fn a => simp [okD] at h
theorem okD_shaped {n : Nat} {p : PV} (h : okD n p = true) (hn : n ≤ 64) : SeqAt.shaped p.toD = true := by
  obtain ⟨h1, h2⟩ := okD_lay n p h
  simp only [SeqAt.shaped, h1, Bool.true_and, decide_eq_true_eq]
  omega
theorem pvEq_refl {n : Nat} {p : PV} (h : okD n p = true) : pvEq p p = true := SeqAt.eqv_refl _ (okD_lay n p h).1
theorem gEq_same {n : Nat} {p : PV} (h : okD n p = true) (hn : n ≤ 64) : gEq p p = some (.bl true) := by
  unfold gEq
  rw [okD_shaped h hn, pvEq_refl h]
  rfl
theorem gNe_same {n : Nat} {p : PV} (h : okD n p = true) (hn : n ≤ 64) : gNe p p = some (.bl false) := by
  unfold gNe
  rw [okD_shaped h hn, pvEq_refl h]
  rfl
theorem gEq_of {n : Nat} {p q : PV} (h : okD n p = true) (h' : okD n q = true) (hn : n ≤ 64) : gEq p q = some (.bl (pvEq p q)) := by
  unfold gEq
  rw [okD_shaped h hn, okD_shaped h' hn]
  rfl
theorem gNe_of {n : Nat} {p q : PV} (h : okD n p = true) (h' : okD n q = true) (hn : n ≤ 64) : gNe p q = some (.bl (!pvEq p q)) := by
  unfold gNe
  rw [okD_shaped h hn, okD_shaped h' hn]
  rfl
def isS (r : FR) (z : Str) : Bool := match r with
  | .ok (.str x) .non => x == z
  | _ => false
theorem isS_ok {r : FR} {z : Str} (h : isS r z = true) : r = .ok (.str z) .non := by
  unfold isS at h
  split at h
  · rw [beq_iff_eq] at h
    subst h
    rfl
  · cases h
/-! ### slots given back, one by one -/
def backR (own : List Nat) : Nat → Env → Env → Env
  | _, [], _ => []
  | k, s :: r, [] => (if own.contains k then clean s else Sl.back s .un) :: backR own (k + 1) r []
  | k, s :: r, t :: r' => (if own.contains k then clean s else Sl.back s t) :: backR own (k + 1) r r'
theorem backR_eq (own : List Nat) : ∀ (ρ ρ' : Env) (k : Nat), backR own k ρ ρ' = (List.range ρ.length).map fun i => if own.contains (k + i) then clean (ρ.getD i .un) else Sl.back (ρ.getD i .un) (ρ'.getD i .un)
  | [], _, _ => by simp [backR]
  | s :: r, [], k => by
    rw [backR, backR_eq own r [] (k + 1), List.length_cons, List.range_succ_eq_map]
    simp [Nat.add_assoc, Nat.add_comm 1, Function.comp_def]
  | s :: r, t :: r', k => by
    rw [backR, backR_eq own r r' (k + 1), List.length_cons, List.range_succ_eq_map]
    simp [Nat.add_assoc, Nat.add_comm 1, Function.comp_def]
theorem ap_backE {own : List Nat} {ρ ρ' : Env} : backE own ρ ρ' = backR own 0 ρ ρ' := by
  rw [backR_eq]
  simp [backE]
theorem ceil_nat (a m : Nat) (hm : 0 < m) : -(-(a : Int) / (m : Int)) = (((a + m - 1) / m : Nat) : Int) := by
  have h1 := Nat.div_add_mod (a + m - 1) m
  have h2 := Nat.mod_lt (a + m - 1) hm
  generalize (a + m - 1) / m = q at *
  generalize (a + m - 1) % m = r at *
  have h3 : -(a : Int) = ((m - 1 - r : Nat) : Int) + (m : Int) * (-(q : Int)) := by
    have h4 : ((m * q + r : Nat) : Int) = ((a + m - 1 : Nat) : Int) := by rw [h1]
    rw [Int.natCast_add, Int.natCast_mul] at h4
    rw [Int.mul_neg]
    omega
  rw [h3, Int.add_mul_ediv_left _ _ (by omega), Int.ediv_eq_zero_of_lt (by omega) (by omega)]
  omega
/-! ### a def's answer by its body's -/
section
variable {io fr : Bool} {n len : Nat} {d : DenS} {ps : List PV} {env ρ : Env} {p q : PV} {x : Exn}
theorem run_rt (e : d env = .rt p ρ) (hl : ps.length = n := by rfl) (henv : argSl false ps ++ List.replicate (len - n) .un = env := by rfl) : runD false fr n len d ps = .ok p .non := by
  unfold runD
  rw [if_pos hl, henv, e]
  rfl
theorem run_nx (e : d env = .nx ρ) (hl : ps.length = n := by rfl) (henv : argSl false ps ++ List.replicate (len - n) .un = env := by rfl) : runD false false n len d ps = .ok .non .non := by
  unfold runD
  rw [if_pos hl, henv, e]
  rfl
theorem run_exc (e : d env = .exc x ρ) (hl : ps.length = n := by rfl) (henv : argSl io ps ++ List.replicate (len - n) .un = env := by rfl) : runD io fr n len d ps = .exc x := by
  unfold runD
  rw [if_pos hl, henv, e]
theorem run_io (e : d env = .rt p (.io q :: ρ)) (hl : ps.length = n := by rfl) (henv : argSl true ps ++ List.replicate (len - n) .un = env := by rfl) : runD true fr n len d ps = .ok p q := by
  unfold runD
  rw [if_pos hl, henv, e]
  rfl
theorem run_ionx (e : d env = .nx (.io q :: ρ)) (hl : ps.length = n := by rfl) (henv : argSl true ps ++ List.replicate (len - n) .un = env := by rfl) : runD true false n len d ps = .ok .non q := by
  unfold runD
  rw [if_pos hl, henv, e]
  rfl
end
/-! ### equality, part by part -/
def pvEqs (xs ys : List PV) : Bool := PyData.eqvAll (toDs xs) (toDs ys)
section
variable {x y : PV} {xs ys : List PV}
theorem pvEq_lst : pvEq (.lst xs) (.lst ys) = pvEqs xs ys := by simp [pvEq, PV.toD, PyData.eqv, pvEqs]
theorem pvEq_tup : pvEq (.tup xs) (.tup ys) = pvEqs xs ys := by simp [pvEq, PV.toD, PyData.eqv, pvEqs]
theorem pvEq_str (a b : Str) : pvEq (.str a) (.str b) = decide (a = b) := eqv_str a b
theorem pvEq_bl (a b : Bool) : pvEq (.bl a) (.bl b) = (a == b) := by simp [pvEq, PV.toD, PyData.eqv]
theorem pvEqs_nil : pvEqs [] [] = true := by simp [pvEqs, toDs, PyData.eqvAll]
theorem pvEqs_cons : pvEqs (x :: xs) (y :: ys) = (pvEq x y && pvEqs xs ys) := by simp [pvEqs, toDs, PyData.eqvAll, pvEq]
theorem pvEqs_nc : pvEqs [] (y :: ys) = false := by simp [pvEqs, toDs, PyData.eqvAll]
theorem pvEqs_cn : pvEqs (x :: xs) [] = false := by simp [pvEqs, toDs, PyData.eqvAll]
end
theorem pvEqs_len : ∀ {xs ys : List PV}, pvEqs xs ys = true → xs.length = ys.length
  | [], [], _ => rfl
  | [], _ :: _, h => by rw [pvEqs_nc] at h; cases h
  | _ :: _, [], h => by rw [pvEqs_cn] at h; cases h
  | x :: xs, y :: ys, h => by
    rw [pvEqs_cons, Bool.and_eq_true] at h
    simp [pvEqs_len h.2]
theorem pvEqs_map {α : Type} [DecidableEq α] {f : α → PV} (hf : ∀ x y, pvEq (f x) (f y) = decide (x = y)) : ∀ l m : List α, pvEqs (l.map f) (m.map f) = decide (l = m)
  | [], [] => pvEqs_nil
  | [], _ :: _ => by simp [pvEqs_nc]
  | _ :: _, [] => by simp [pvEqs_cn]
  | x :: l, y :: m => by
    rw [List.map_cons, List.map_cons, pvEqs_cons, hf, pvEqs_map hf l m]
    simp
theorem okDs_map {α : Type} {n : Nat} {f : α → PV} {l : List α} (h : ∀ x ∈ l, okD n (f x) = true) : okDs n (l.map f) = true := by
  rw [okDs_iff]
  intro p hp
  obtain ⟨x, hx, rfl⟩ := List.mem_map.mp hp
  exact h x hx
theorem okD_lst {n : Nat} {ps : List PV} (h1 : ps.length ≤ 100000) (h2 : okDs n ps = true) : okD (n + 1) (.lst ps) = true := by simp [okD, h1, h2]
theorem okD_tup {n : Nat} {ps : List PV} (h1 : ps.length ≤ 100000) (h2 : okDs n ps = true) : okD (n + 1) (.tup ps) = true := by simp [okD, h1, h2]
theorem okD_int {n : Nat} (i : Int) : okD (n + 1) (.int i) = true := rfl
theorem okD_bl {n : Nat} (i : Bool) : okD (n + 1) (.bl i) = true := rfl
theorem okD_non {n : Nat} : okD (n + 1) .non = true := rfl
theorem okD_st {n : Nat} {l : List Nat} (h : asc l) : okD (n + 1) (.str (st l)) = true := by
  show PyData.canLay0 (.str (st l)) = true
  simp only [PyData.canLay0]
  exact strOk_st h
/-! ### comprehensions over one name, without an effect -/
theorem noOw_setS {i : Nat} {p : PV} : ∀ {ρ : Env}, noOw ρ = true → noOw (ρ.set i (.sh p)) = true := by
  intro ρ
  induction ρ generalizing i with
  | nil => intro h; simpa using h
  | cons s r ih =>
    intro h
    rw [noOw_cons, Bool.and_eq_true] at h
    cases i with
    | zero => simp [h.2]
    | succ i => rw [List.set_cons_succ, noOw_cons, h.1, ih h.2]; rfl
theorem set_un {ρ : Env} {i : Nat} {s : Sl} (h : ρ[i]? = some .un) : (ρ.set i s).set i .un = ρ := by
  rw [List.set_set]
  obtain ⟨hi, e⟩ := List.getElem?_eq_some_iff.mp h
  rw [← e]
  exact List.set_getElem_self hi
theorem lc_pure {α : Type} {i : Nat} {E : Den} {ρ : Env} (g f : α → PV) (l : List α) (h0 : ρ[i]? = some .un) (h1 : noOw ρ = true) (hE : ∀ c ∈ l, E (ρ.set i (.sh (g c))) = .ok (f c) (ρ.set i (.sh (g c)))) :
    lcLoop [i] (gName i) bYes E (l.map g) ρ = some (l.map f, ρ) :=
  lc_mapG g f ρ l fun c hc => ⟨_, _, rfl, hE c hc, noOw_setS h1, by simp only [wipeE]; exact set_un h0⟩
theorem lc_pureR {i n : Nat} {E : Den} {ρ : Env} (f : Nat → PV) (h0 : ρ[i]? = some .un) (h1 : noOw ρ = true) (hE : ∀ c, c < n → E (ρ.set i (.sh (.int (c : Nat)))) = .ok (f c) (ρ.set i (.sh (.int (c : Nat))))) :
    lcLoop [i] (gName i) bYes E (rangeP 0 n) ρ = some ((List.range n).map f, ρ) := by
  have e : rangeP 0 n = (List.range n).map fun i : Nat => PV.int (i : Int) := by simp [rangeP_map]
  rw [e]
  exact lc_pure (fun c : Nat => PV.int (c : Int)) f _ h0 h1 fun c hc => hE c (List.mem_range.mp hc)
theorem lc_pureF {α : Type} {i : Nat} {T : DenB} {E : Den} {ρ : Env} (g f : α → PV) (t : α → Bool) (l : List α) (h0 : ρ[i]? = some .un) (h1 : noOw ρ = true) (hT : ∀ c ∈ l, T (ρ.set i (.sh (g c))) = .ok (t c) (ρ.set i (.sh (g c)))) (hE : ∀ c ∈ l, t c = true → E (ρ.set i (.sh (g c))) = .ok (f c) (ρ.set i (.sh (g c)))) :
    lcLoop [i] (gName i) T E (l.map g) ρ = some ((l.filter t).map f, ρ) :=
  lc_filter g f t ρ l fun c hc => by
    refine ⟨_, _, rfl, hT c hc, ?_⟩
    split
    · rename_i h
      exact ⟨_, hE c hc h, noOw_setS h1, by simp only [wipeE]; exact set_un h0⟩
    · exact ⟨noOw_setS h1, by simp only [wipeE]; exact set_un h0⟩
theorem at0 {α : Type} (a : α) (l : List α) : L2.atI (a :: l) (0 : Int) = some a := atI_nat (xs := a :: l) (i := 0) (by simp)
theorem at1 {α : Type} (a b : α) (l : List α) : L2.atI (a :: b :: l) (1 : Int) = some b := atI_nat (xs := a :: b :: l) (i := 1) (by simp)
theorem at2 {α : Type} (a b c : α) (l : List α) : L2.atI (a :: b :: c :: l) (2 : Int) = some c := atI_nat (xs := a :: b :: c :: l) (i := 2) (by simp)
theorem at3 {α : Type} (a b c d : α) (l : List α) : L2.atI (a :: b :: c :: d :: l) (3 : Int) = some d := atI_nat (xs := a :: b :: c :: d :: l) (i := 3) (by simp)
@[simp] theorem ap_listOfL (ps : List PV) : gListOf [.lst ps] = some (.lst ps) := id rfl
@[simp] theorem ap_listOfT (ps : List PV) : gListOf [.tup ps] = some (.lst ps) := id rfl
theorem ap_sortedI (l : List Int) : gSorted [.lst (l.map .int)] = some (.lst ((sortI l).map .int)) := by simp [gSorted, ints_map]
theorem ap_sumI (l : List Int) : gSumN [.lst (l.map .int)] = some (.int l.sum) := by simp [gSumN, ints_map]
end PL

set_option Elab.async false
set_option linter.all false
set_option maxRecDepth 100000
set_option maxHeartbeats 4000000
namespace PL
open PySem PySem.Spec L2
set_option autoImplicit false
/-! ### a local name that holds one of two defs of the module -/
def spN (sp : Sp) : Sp := fun vs H Q _ => sp vs H Q fun _ _ _ => False
theorem FnOk.calm {P : Program} {w : World} {K : PySem.W.Frag} {mg : Str → Option Value} {base : Heap} {k : Nat} {f : Addr} {fd : FuncData} {ps : List Str} {sp : Sp} (F : FnOk P w K mg base (L2.CX P w) k f fd ps sp) : FnOk P w K mg base CX0 k f fd ps (spN sp) :=
  ⟨fun vs H Q E h => F.len vs H Q _ h, fun A outer s H args us vs Q E hr he hb hv hs => codeAny_mono (F.run A outer s H args us vs Q (fun _ _ _ => False) hr he hb hv hs) fun r s' z => by
    cases r with
    | ok fin => cases fin <;> exact z
    | error e =>
      obtain ⟨_, _, _, _, _, _, _, _, _, _, _, _, z⟩ := z
      exact z.elim⟩
def dCallV (i : Nat) (x1 : Str) (F1 : List PV → FR) (x2 : Str) (F2 : List PV → FR) (dl : DenL) : Den := fun ρ => match ρ[i]? with
  | some (.sh (.fn x)) => if x = x1 then (dl ρ).bind fun ps ρ1 => (match F1 ps with
      | .ok p _ => .ok p ρ1
      | _ => .bad) else if x = x2 then (dl ρ).bind fun ps ρ1 => (match F2 ps with
      | .ok p _ => .ok p ρ1
      | _ => .bad) else .bad
  | _ => .bad
section
variable {X : Cx} {W : WX} {fr : Bool} {k j1 j2 n1 n2 : Nat} {pos p : Pos} {e : Expr} {es : List Expr} {dl : DenL} {x x1 x2 : Str} {F1 F2 : List PV → FR}
theorem callV_one {K : PySem.W.Frag} {mg : Str → Option Value} {n : Nat} {F : List PV → FR} {ta : TA} {H₀ S₀ : Hp} {M : Addr → Prop} {S H : Hp} {σ : St} {ρ : Env} {Q : VK} (ha : AOk K mg W ta dl) (hn : ∀ ps, F ps ≠ .bad → ps.length = n) (ab : Abs K H₀ S₀ M S σ H ρ)
    (hp : Post K mg W (rV K) H₀ S₀ M σ ((dl ρ).bind fun ps ρ1 => (match F ps with
      | .ok p _ => .ok p ρ1
      | _ => .bad)) Q) : ta σ H fun vs H1 => spN (spD K mg false false n F) vs H1 Q (fun _ _ _ => False) :=
  ha.bind (Rl' := rV K) ab hp fun ps ρ1 vs S1 H1 _ a1 _ r hp => by
    cases e : F ps with
    | bad => simp only [e] at hp; exact hp.elim
    | exc x => simp only [e] at hp; exact hp.elim
    | ok p q =>
      simp only [e] at hp
      refine call_pre a1 r (hn ps (by rw [e]; intro z; cases z)) ?_
      simp only [e]
      exact fun v S' H' st rv => hp v S' H' (a1.step st) rv
theorem de_callV (i : Nat) (G1 : Fd X.prog X.w X.K X.mg X.base x1 j1 false false n1 F1) (m1 : X.mg x1 = some (.ref (He.ga X.K x1))) (G2 : Fd X.prog X.w X.K X.mg X.base x2 j2 false false n2 F2) (m2 : X.mg x2 = some (.ref (He.ga X.K x2))) (c : Ctx X W k) (ha : DA X W (e :: es) dl) (h1 : j1 ≤ k := by decide) (h2 : j2 ≤ k := by decide)
    (hN : X.N[i]? = some x := by rfl) (hv : Vis X.env.scope x := by first | exact Or.inl rfl | exact Or.inr (Or.inl rfl) | exact Or.inr (Or.inr rfl)) (hd : (x == ("__debug__" : Str)) = false := by decide) (hcd : (x == ("__classdict__" : Str)) = false := by decide)
    (he : starEach (e :: es) X.env = (false, eval e X.env) :: starEach es X.env := by rfl) (hpl : (backTo pos (starEach es X.env)).any (·.1) = false := by rfl) : DE X W (.Call (.Name x p) (e :: es) [] pos) (dCallV i x1 F1 x2 F2 dl) := by
  obtain ⟨f1, fd1, ps1, a1, b1, c1, d1⟩ := G1.ex
  obtain ⟨f2, fd2, ps2, a2, b2, c2, d2⟩ := G2.ex
  have e1 := b1.symm.trans m1
  have e2 := b2.symm.trans m2
  cases e1
  cases e2
  refine DE.of (C8.pe_cv (sp1 := spN (spD X.K X.mg false false n1 F1)) (sp2 := spN (spD X.K X.mg false false n2 F2)) ⟨_, _, FnOk.calm a1, c1, d1⟩ ⟨_, _, FnOk.calm a2, c2, d2⟩ c.room h1 h2 hN hv ha hd hcd he hpl) ?_
  intro H₀ S₀ M S σ H ρ Q ab hp
  unfold dCallV at hp
  split at hp
  · rename_i y ey
    obtain ⟨v, hv, rv⟩ := ab.sh i _ ey
    cases rv
    split at hp
    · rename_i hz
      subst hz
      exact .inl ⟨hv, callV_one canon_ok G1.len ab hp⟩
    · split at hp
      · rename_i hz
        subst hz
        exact .inr ⟨hv, callV_one canon_ok G2.len ab hp⟩
      · exact hp.elim
  · exact hp.elim
theorem de_fn (m : X.mg x = some (.ref (He.ga X.K x))) (hg : Gl X x := by rfl) (hd : (x == ("__debug__" : Str)) = false := by decide) : DE X W (.Name x pos) (dC (.fn x)) := de_glob (v := .ref (He.ga X.K x)) m rfl (fun _ => .fn _) hg hd
@[simp] theorem ap_dCallV {i : Nat} {ρ : Env} : dCallV i x1 F1 x2 F2 dl ρ = match ρ[i]? with
  | some (.sh (.fn x)) => if x = x1 then (dl ρ).bind fun ps ρ1 => (match F1 ps with
      | .ok p _ => .ok p ρ1
      | _ => .bad) else if x = x2 then (dl ρ).bind fun ps ρ1 => (match F2 ps with
      | .ok p _ => .ok p ρ1
      | _ => .bad) else .bad
  | _ => .bad := id rfl
end
end PL

set_option Elab.async false
set_option linter.all false
set_option maxRecDepth 100000
set_option maxHeartbeats 4000000
namespace PL
open PySem PySem.Spec L2
set_option autoImplicit false
/-! ### d[k] = v -/
def putVs : List PV → List PV → PV → PV → List PV
  | k :: ks, v :: vs, q, e => (if kEq k q = true then e else v) :: putVs ks vs q e
  | _, _, _, _ => []
def dPutQ (ks vs : List PV) (q e : PV) : List PV × List PV := if ks.any (fun k => kEq k q) = true then (ks, putVs ks vs q e) else (ks ++ [q], vs ++ [e])
theorem kEq_key (a b : Key) : kEq (keyPV a) (keyPV b) = decide (a = b) := by
  unfold kEq
  rw [kk?_key, kk?_key]
  by_cases h : a = b <;> simp [h]
section
variable {K : PySem.W.Frag} {S : Hp} {κ : Type} [DecidableEq κ] {f : κ → PV}
theorem put_any (hf : ∀ a b, kEq (f a) (f b) = decide (a = b)) (k : κ) : ∀ kvs : List (κ × V), (kvs.map fun p => f p.1).any (fun q => kEq q (f k)) = kvs.any fun kv => decide (kv.1 = k)
  | [] => rfl
  | p :: kvs => by simp [hf, Function.comp_def]
theorem put_keys (k : κ) (v : V) (kvs : List (κ × V)) : ((kvs.map fun kv => if kv.1 = k then (kv.1, v) else kv).map fun p => f p.1) = kvs.map fun p => f p.1 := by
  rw [List.map_map]
  refine List.map_congr_left fun p _ => ?_
  simp only [Function.comp]
  split <;> rfl
theorem put_vals (hf : ∀ a b, kEq (f a) (f b) = decide (a = b)) {k : κ} {v : V} {e : PV} (re : Rep K S e v) : ∀ {kvs : List (κ × V)} {ps : List PV}, RepL K S ps (kvs.map (·.2)) → RepL K S (putVs (kvs.map fun p => f p.1) ps (f k) e) ((kvs.map fun kv => if kv.1 = k then (kv.1, v) else kv).map (·.2))
  | [], _, h => by cases h; exact .nil
  | p :: kvs, _, h => by
    cases h with
    | cons h1 h2 =>
      have ih := put_vals hf (k := k) re h2
      simp only [List.map_cons, putVs, hf]
      by_cases hz : p.1 = k
      · simp only [hz, decide_true, if_true]
        exact .cons re ih
      · simp only [hz, decide_false, if_false, Bool.false_eq_true]
        exact .cons h1 ih
end
section
variable {K : PySem.W.Frag} {S : Hp}
theorem OwnO.putK {kvs : List (Key × V)} {ks ps : List PV} {k : Key} {v : V} {e : PV} (h : OwnO K S (.dic false ks ps) (.dK kvs)) (re : Rep K S e v) : OwnO K S (.dic false (dPutQ ks ps (keyPV k) e).1 (dPutQ ks ps (keyPV k) e).2) (.dK (L2.putK kvs k v)) := by
  obtain ⟨rfl, h⟩ := h
  unfold dPutQ L2.putK
  rw [put_any kEq_key]
  by_cases hz : (kvs.any fun kv => decide (kv.1 = k)) = true
  · rw [if_pos hz, if_pos hz]
    exact ⟨(put_keys k v kvs).symm, put_vals kEq_key re h⟩
  · rw [if_neg hz, if_neg hz]
    exact ⟨by simp, by rw [List.map_append]; exact h.append (.cons re .nil)⟩
theorem OwnO.putT {kvs : List (List Key × V)} {ks ps : List PV} {k : List Key} {v : V} {e : PV} (h : OwnO K S (.dic true ks ps) (.dT kvs)) (re : Rep K S e v) : OwnO K S (.dic true (dPutQ ks ps (.tup (k.map keyPV)) e).1 (dPutQ ks ps (.tup (k.map keyPV)) e).2) (.dT (L2.putK kvs k v)) := by
  obtain ⟨rfl, h⟩ := h
  unfold dPutQ L2.putK
  rw [put_any (f := fun k : List Key => PV.tup (k.map keyPV)) kEq_keys]
  by_cases hz : (kvs.any fun kv => decide (kv.1 = k)) = true
  · rw [if_pos hz, if_pos hz]
    exact ⟨(put_keys (f := fun k : List Key => PV.tup (k.map keyPV)) k v kvs).symm, put_vals (f := fun k : List Key => PV.tup (k.map keyPV)) kEq_keys re h⟩
  · rw [if_neg hz, if_neg hz]
    exact ⟨by simp, by rw [List.map_append]; exact h.append (.cons re .nil)⟩
end
def sPutD (i : Nat) (db da : Den) : DenS := fun ρ => (da ρ).bindS fun e ρ1 => match ownAt ρ1 i with
  | none => .bad
  | some _ => (db ρ1).bindS fun k ρ2 => match ownAt ρ2 i with
    | some (s, .dic t ks vs) => if (kGood t k && decide (ks.length < 100000)) = true then .nx (ρ2.set i (s.with (.dic t (dPutQ ks vs k e).1 (dPutQ ks vs k e).2))) else .bad
    | _ => .bad
section
variable {X : Cx} {W : WX} {fr : Bool} {k : Nat} {pos p p2 : Pos} {e a : Expr} {da db : Den} {x : Str}
theorem so_putD {K : PySem.W.Frag} {mg : Str → Option Value} {i : Nat} {ti te : TE} (hi : EOk K mg W ti db) (ha : EOk K mg W te da) : SOk K mg W fr (sDPut (tVar i) ti te) (sPutD i db da) := fun H₀ S₀ M S σ H ρ D ab hp =>
  ha.bindS ab hp fun e ρ1 y S1 H1 _ a1 _ ry hp => by
    cases e0 : ownAt ρ1 i with
    | none => rw [e0] at hp; exact hp.elim
    | some sp =>
      obtain ⟨s0, p0⟩ := sp
      rw [e0] at hp
      obtain ⟨e1, e2⟩ := ownAt_some e0
      obtain ⟨b, o, h1, h2, h3, h4, h5, h6⟩ := a1.own i _ _ e1 e2
      refine ⟨.ref b, h1, ?_⟩
      refine hi.bindS a1 hp fun q ρ2 x S2 H2 _ a2 s2 rx hp => ?_
      have rx : Rep K S2 q x := rx
      have ry : Rep K S1 e y := ry
      cases e3 : ownAt ρ2 i with
      | none => rw [e3] at hp; exact hp.elim
      | some sp =>
        obtain ⟨s, p⟩ := sp
        rw [e3] at hp
        obtain ⟨e4, e5⟩ := ownAt_some e3
        obtain ⟨b', o', k1, k2, k3, k4, k5, k6⟩ := a2.own i _ _ e4 e5
        rw [h1] at k1
        cases k1
        cases p with
        | dic t ks vs =>
          simp only at hp
          split at hp
          · rename_i hz
            simp only [Bool.and_eq_true, decide_eq_true_eq] at hz
            obtain ⟨hg, hl⟩ := hz
            obtain ⟨hg1, hg2⟩ := (Bool.and_eq_true _ _).mp hg
            have hs : (100000 : Nat) < sizeLine := by rw [sizeLine_eq]; decide
            refine ⟨b, ?_⟩
            have keyed : ∀ kk, key? q = some kk → ∃ H4, V.ref b = V.ref b ∧ DPut H2 b x y H4 ∧ D.nx σ H4 := fun kk hq => by
              have eq := key?_some hq
              subst eq
              have ex := rx.keyV
              subst ex
              cases t with
              | true => cases kk <;> cases hg2
              | false =>
                cases o' with
                | dK kvs =>
                  have hn : kvs.length < sizeLine := by
                    have : ks = kvs.map (fun p => keyPV p.1) := k6.1
                    rw [this, List.length_map] at hl
                    omega
                  exact ⟨_, rfl, DPut.k k5 hn, hp S2 σ _ (a2.mut e4 e5 h1 (OwnO.putK k6 (ry.up s2)))⟩
                | _ => exact k6.elim
            cases q with
            | tup qs =>
              cases rx with
              | tup g1 g2 =>
                rename_i c us
                have hk : ((keys? qs).map (Sum.inr : List Key → KK)).isSome = true := hg1
                cases hks : keys? qs with
                | none => rw [hks] at hk; cases hk
                | some kk =>
                  have eq := keys?_some hks
                  subst eq
                  have hx := a2.sub _ _ g1
                  rw [g2.keyVs] at hx
                  cases t with
                  | false => cases hg2
                  | true =>
                    cases o' with
                    | dT kvs =>
                      have hn : kvs.length < sizeLine := by
                        have : ks = kvs.map (fun p => .tup (p.1.map keyPV)) := k6.1
                        rw [this, List.length_map] at hl
                        omega
                      exact ⟨_, rfl, DPut.t k5 hx hn, hp S2 σ _ (a2.mut e4 e5 h1 (OwnO.putT k6 (ry.up s2)))⟩
                    | _ => exact k6.elim
            | int i => exact keyed (.inl i) rfl
            | str z => exact keyed (.inr z) rfl
            | _ => cases hg1
          · exact hp.elim
        | _ => exact hp.elim
theorem ds_putD (i : Nat) (c : Ctx X W k) (ho : PE X (.Name x p) (tVar i)) (hi : DE X W a db) (h : DE X W e da) (hs : swapsWith e (some (.Subscript (.Name x p) a p2)) pos.line X.env = pure false := by rfl) :
    DS X W fr (.Assign [.Subscript (.Name x p) a p2] e pos) (sPutD i db da) := DS.of (ps_dput (by have := c.hu; omega) ho hi h hs) (so_putD canon_ok canon_ok)
@[simp] theorem ap_sPutD {i : Nat} {ρ : Env} : sPutD i db da ρ = (da ρ).bindS fun e ρ1 => match ownAt ρ1 i with
  | none => .bad
  | some _ => (db ρ1).bindS fun k ρ2 => match ownAt ρ2 i with
    | some (s, .dic t ks vs) => if (kGood t k && decide (ks.length < 100000)) = true then .nx (ρ2.set i (s.with (.dic t (dPutQ ks vs k e).1 (dPutQ ks vs k e).2))) else .bad
    | _ => .bad := id rfl
end
end PL

set_option Elab.async false
set_option linter.all false
set_option maxRecDepth 100000
set_option maxHeartbeats 4000000
namespace PL
open PySem PySem.Spec L2
set_option autoImplicit false
/-! ### a dict walked: it is frozen meanwhile -/
def lk (b : Addr) (u : HO) (o : Obj) (H : Hp) : Hp := fun a => if a = b then (match H a with
  | some _ => some (.frz o u)
  | none => none) else H a
def ulk (b : Addr) (u : HO) (H : Hp) : Hp := fun a => if a = b then (match H a with
  | some _ => some u
  | none => none) else H a
def isD : HO → Prop
  | .dK _ => True
  | .dT _ => True
  | _ => False
section
variable {b a : Addr} {u x : HO} {o : Obj} {H : Hp}
theorem lk_ne (h : a ≠ b) : lk b u o H a = H a := if_neg h
theorem ulk_ne (h : a ≠ b) : ulk b u H a = H a := if_neg h
theorem lk_at (h : H b = some x) : lk b u o H b = some (.frz o u) := by simp [lk, h]
theorem ulk_at (h : H b = some x) : ulk b u H b = some u := by simp [ulk, h]
theorem lk_none (h : H a = none) : lk b u o H a = none := by
  unfold lk
  split
  · rw [h]
  · exact h
theorem lk_none' (h : lk b u o H a = none) : H a = none := by
  by_cases e : a = b
  · subst e
    cases q : H a with
    | none => rfl
    | some y => rw [lk_at q] at h; cases h
  · rwa [lk_ne e] at h
theorem lk_upd (h : H b = some x) : lk b u o H = upd H b (.frz o u) := by
  funext a
  by_cases e : a = b
  · subst e; rw [lk_at h, upd_same]
  · rw [lk_ne e, upd_ne e]
theorem ulk_upd (h : H b = some x) : ulk b u H = upd H b u := by
  funext a
  by_cases e : a = b
  · subst e; rw [ulk_at h, upd_same]
  · rw [ulk_ne e, upd_ne e]
end
section
variable {K : PySem.W.Frag} {b : Addr} {u : HO} {o : Obj}
theorem ne_lk {S : Hp} {a : Addr} {x : HO} (hu : isD u) (hS : ∀ x, S b = some x → x = u) (h : S a = some x) (hx : ¬ isD x) : a ≠ b := fun e => by
  subst e
  exact hx (hS x h ▸ hu)
theorem Rd.lk {S : Hp} {a : Addr} {x : HO} (hu : isD u) (hS : ∀ x, S b = some x → x = u) (h : Rd S a x) : Rd (lk b u o S) a x := by
  rcases h with h | ⟨o', h⟩
  · by_cases e : a = b
    · subst e
      rw [hS x h]
      exact .inr ⟨o, lk_at h⟩
    · exact .inl (by rw [lk_ne e]; exact h)
  · exact .inr ⟨o', by rw [lk_ne (ne_lk hu hS h fun z => z)]; exact h⟩
theorem Rd.ulk {S : Hp} {a : Addr} {x : HO} (hu : isD u) (hS : ∀ x, S b = some x → x = .frz o u) (h : Rd S a x) (hx : ∀ o' u', x ≠ .frz o' u') : Rd (ulk b u S) a x := by
  rcases h with h | ⟨o', h⟩
  · by_cases e : a = b
    · subst e
      exact (hx _ _ (hS x h)).elim
    · exact .inl (by rw [ulk_ne e]; exact h)
  · by_cases e : a = b
    · subst e
      have z := hS _ h
      cases z
      exact .inl (ulk_at h)
    · exact .inr ⟨o', by rw [ulk_ne e]; exact h⟩
section
variable {S : Hp} (hu : isD u) (hS : ∀ x, S b = some x → x = u)
include hu hS
mutual
theorem Rep.lk : ∀ (p : PV) (v : V), Rep K S p v → Rep K (PL.lk b u o S) p v
  | .non, _, h => by cases h; exact .non
  | .bl b, _, h => by cases h; exact .bl b
  | .int i, _, h => by cases h; exact .int i
  | .str x, _, h => by cases h; exact .str x
  | .fn a, _, h => by cases h; exact .fn a
  | .lst ps, _, h => by cases h with | lst h1 h2 => exact .lst (by rw [lk_ne (ne_lk hu hS h1 fun z => z)]; exact h1) (RepL.lk ps _ h2)
  | .tup ps, _, h => by cases h with | tup h1 h2 => exact .tup (by rw [lk_ne (ne_lk hu hS h1 fun z => z)]; exact h1) (RepL.lk ps _ h2)
  | .ktup ps, _, h => by
    cases h with
    | ktup h1 h2 =>
      refine .ktup ?_ (RepL.lk ps _ h2)
      rcases h1 with h1 | h1
      · exact .inl (Rd.lk hu hS h1)
      · exact .inr h1
  | .klst ps, _, h => by
    cases h with
    | klst h1 h2 =>
      refine .klst ?_ (RepL.lk ps _ h2)
      rcases h1 with h1 | h1
      · exact .inl (Rd.lk hu hS h1)
      · exact .inr h1
  | .dic t ks ps, _, h => by
    cases h with
    | dK h1 h2 => exact .dK (Rd.lk hu hS h1) (RepL.lk ps _ h2)
    | dT h1 h2 => exact .dT (Rd.lk hu hS h1) (RepL.lk ps _ h2)
theorem RepL.lk : ∀ (ps : List PV) (vs : List V), RepL K S ps vs → RepL K (PL.lk b u o S) ps vs
  | [], _, h => by cases h; exact .nil
  | p :: ps, _, h => by cases h with | cons h1 h2 => exact .cons (Rep.lk p _ h1) (RepL.lk ps _ h2)
end
end
section
variable {S : Hp} (hu : isD u) (hS : ∀ x, S b = some x → x = .frz o u)
include hu hS
theorem ne_ulk {a : Addr} {x : HO} (h : S a = some x) (hx : ∀ o' u', x ≠ .frz o' u') : a ≠ b := fun e => by
  subst e
  exact hx _ _ (hS x h)
mutual
theorem Rep.ulk : ∀ (p : PV) (v : V), Rep K S p v → Rep K (PL.ulk b u S) p v
  | .non, _, h => by cases h; exact .non
  | .bl b, _, h => by cases h; exact .bl b
  | .int i, _, h => by cases h; exact .int i
  | .str x, _, h => by cases h; exact .str x
  | .fn a, _, h => by cases h; exact .fn a
  | .lst ps, _, h => by cases h with | lst h1 h2 => exact .lst (by rw [ulk_ne (ne_ulk hu hS h1 fun _ _ z => nomatch z)]; exact h1) (RepL.ulk ps _ h2)
  | .tup ps, _, h => by cases h with | tup h1 h2 => exact .tup (by rw [ulk_ne (ne_ulk hu hS h1 fun _ _ z => nomatch z)]; exact h1) (RepL.ulk ps _ h2)
  | .ktup ps, _, h => by
    cases h with
    | ktup h1 h2 =>
      refine .ktup ?_ (RepL.ulk ps _ h2)
      rcases h1 with h1 | h1
      · exact .inl (Rd.ulk hu hS h1 fun _ _ z => nomatch z)
      · exact .inr h1
  | .klst ps, _, h => by
    cases h with
    | klst h1 h2 =>
      refine .klst ?_ (RepL.ulk ps _ h2)
      rcases h1 with h1 | h1
      · exact .inl (Rd.ulk hu hS h1 fun _ _ z => nomatch z)
      · exact .inr h1
  | .dic t ks ps, _, h => by
    cases h with
    | dK h1 h2 => exact .dK (Rd.ulk hu hS h1 fun _ _ z => nomatch z) (RepL.ulk ps _ h2)
    | dT h1 h2 => exact .dT (Rd.ulk hu hS h1 fun _ _ z => nomatch z) (RepL.ulk ps _ h2)
theorem RepL.ulk : ∀ (ps : List PV) (vs : List V), RepL K S ps vs → RepL K (PL.ulk b u S) ps vs
  | [], _, h => by cases h; exact .nil
  | p :: ps, _, h => by cases h with | cons h1 h2 => exact .cons (Rep.ulk p _ h1) (RepL.ulk ps _ h2)
end
end
theorem OwnO.lk {S : Hp} (hu : isD u) (hS : ∀ x, S b = some x → x = u) {p : PV} {w : HO} (h : OwnO K S p w) : OwnO K (PL.lk b u o S) p w := by
  unfold OwnO at h ⊢
  split at h
  · exact RepL.lk hu hS _ _ h
  · exact ⟨h.1, RepL.lk hu hS _ _ h.2⟩
  · exact ⟨h.1, RepL.lk hu hS _ _ h.2⟩
  · exact h.elim
theorem OwnO.ulk {S : Hp} (hu : isD u) (hS : ∀ x, S b = some x → x = .frz o u) {p : PV} {w : HO} (h : OwnO K S p w) : OwnO K (PL.ulk b u S) p w := by
  unfold OwnO at h ⊢
  split at h
  · exact RepL.ulk hu hS _ _ h
  · exact ⟨h.1, RepL.ulk hu hS _ _ h.2⟩
  · exact ⟨h.1, RepL.ulk hu hS _ _ h.2⟩
  · exact h.elim
section
variable {H₀ S₀ : Hp} {M : Addr → Prop} {S H : Hp} {σ : St} {ρ : Env}
theorem Abs.lk (a : Abs K H₀ S M S σ H ρ) (hu : isD u) (hb : S b = some u) : Abs K (PL.lk b u o H₀) (PL.lk b u o S) M (PL.lk b u o S) σ (PL.lk b u o H) ρ := by
  have hS : ∀ x, S b = some x → x = u := fun x e => by rw [hb] at e; cases e; rfl
  have hH : H b = some u := a.sub _ _ hb
  refine ⟨a.len, fun c x e => ?_, Same.refl _, fun _ _ e => .inl e, fun c x e m => ?_, fun c x e => ?_, fun i p e => ?_, fun i s p e es => ?_, a.dis⟩
  · by_cases h : c = b
    · subst h; rw [lk_at hb] at e; cases e; exact lk_at hH
    · rw [lk_ne h] at e ⊢; exact a.sub _ _ e
  · by_cases h : c = b
    · subst h
      cases q : H₀ c with
      | none => rw [lk_none q] at e; cases e
      | some y => rw [lk_at q] at e; cases e; exact lk_at hH
    · rw [lk_ne h] at e ⊢; exact a.keep _ _ e m
  · by_cases h : c = b
    · subst h; exact ⟨_, lk_at hH⟩
    · rw [lk_ne h] at e ⊢; exact a.there _ _ e
  · obtain ⟨v, h1, h2⟩ := a.sh i p e
    exact ⟨v, h1, Rep.lk hu hS _ _ h2⟩
  · obtain ⟨c, w, h1, h2, h3, h4, h5, h6⟩ := a.own i s p e es
    have hc : c ≠ b := fun z => by subst z; rw [hb] at h4; cases h4
    exact ⟨c, w, h1, fun z => lk_none (h2 z), h3, lk_none h4, by rw [lk_ne hc]; exact h5, OwnO.lk hu hS h6⟩
theorem Abs.ulk {S' H' : Hp} {σ' : St} {ρ' : Env} (a0 : Abs K H₀ S M S σ H ρ) (hu : isD u) (hb : S b = some u) (a : Abs K (PL.lk b u o H₀) (PL.lk b u o S) M S' σ' H' ρ') : Abs K H₀ S M (PL.ulk b u S') σ' (PL.ulk b u H') ρ' := by
  have fS : S' b = some (.frz o u) := a.base _ _ (lk_at hb)
  have fH : H' b = some (.frz o u) := a.sub _ _ fS
  have hS : ∀ x, S' b = some x → x = .frz o u := fun x e => by rw [fS] at e; cases e; rfl
  have hH : H b = some u := a0.sub _ _ hb
  refine ⟨a.len, fun c x e => ?_, fun c x e => ?_, fun c x e => ?_, fun c x e m => ?_, fun c x e => ?_, fun i p e => ?_, fun i s p e es => ?_, a.dis⟩
  · by_cases h : c = b
    · subst h; rw [ulk_at fS] at e; cases e; exact ulk_at fH
    · rw [ulk_ne h] at e ⊢; exact a.sub _ _ e
  · by_cases h : c = b
    · subst h; rw [hb] at e; cases e; exact ulk_at fS
    · rw [ulk_ne h]; exact a.base _ _ (by rw [lk_ne h]; exact e)
  · by_cases h : c = b
    · subst h; rw [ulk_at fS] at e; cases e; exact .inl hb
    · rw [ulk_ne h] at e
      rcases a.grow _ _ e with z | z | z
      · rw [lk_ne h] at z; exact .inl z
      · exact .inr (.inl (lk_none' z))
      · exact .inr (.inr z)
  · by_cases h : c = b
    · subst h
      have z := a0.keep _ _ e m
      rw [hH] at z; cases z
      exact ulk_at fH
    · rw [ulk_ne h]; exact a.keep _ _ (by rw [lk_ne h]; exact e) m
  · by_cases h : c = b
    · subst h; exact ⟨_, ulk_at fH⟩
    · rw [ulk_ne h]; exact a.there _ _ (show PL.lk b u o H₀ c = some x by rw [lk_ne h]; exact e)
  · obtain ⟨v, h1, h2⟩ := a.sh i p e
    exact ⟨v, h1, Rep.ulk hu hS _ _ h2⟩
  · obtain ⟨c, w, h1, h2, h3, h4, h5, h6⟩ := a.own i s p e es
    have hc : c ≠ b := fun z => by subst z; rw [fS] at h4; cases h4
    exact ⟨c, w, h1, fun z => lk_none' (h2 z), h3, by rw [ulk_ne hc]; exact h4, by rw [ulk_ne hc]; exact h5, OwnO.ulk hu hS h6⟩
theorem Fr.ulk {S' H' : Hp} {σ' : St} {ρ' : Env} {p : PV} {v : V} (hu : isD u) (fS : S' b = some (.frz o u)) (f : Fr K (PL.lk b u o H₀) S' H' σ' ρ' p v) : Fr K H₀ (PL.ulk b u S') (PL.ulk b u H') σ' ρ' p v := by
  obtain ⟨c, w, h1, h2, h3, h4, h5, h6⟩ := f
  have hS : ∀ x, S' b = some x → x = .frz o u := fun x e => by rw [fS] at e; cases e; rfl
  have hc : c ≠ b := fun z => by subst z; rw [fS] at h3; cases h3
  exact ⟨c, w, h1, lk_none' h2, by rw [ulk_ne hc]; exact h3, by rw [ulk_ne hc]; exact h4, OwnO.ulk hu hS h5, h6⟩
end
/-! the keys -/
theorem rep_keys {S : Hp} : ∀ k : List Key, RepL K S (k.map keyPV) (k.map kV)
  | [] => .nil
  | .inl i :: k => .cons (.int i) (rep_keys k)
  | .inr x :: k => .cons (.str x) (rep_keys k)
theorem itr_keysK {S H : Hp} {kvs : List (Key × V)} (h : S b = some (.frz o (.dK kvs))) : ItR K S H (kvs.map fun p => keyPV p.1) (Itk b o kvs) := by
  intro i S1 H1 s1 s2
  have hH := s2 _ _ (s1 _ _ h)
  refine ⟨fun hl => ⟨hH, by simpa using hl⟩, fun p e => ?_⟩
  rw [List.getElem?_map] at e
  cases q : kvs[i]? with
  | none => rw [q] at e; cases e
  | some kv =>
    rw [q] at e
    cases e
    refine ⟨⟨hH, (List.getElem?_eq_some_iff.mp q).1⟩, fun x H2 y => ?_⟩
    obtain ⟨rfl, k, v, h1, rfl⟩ := y
    rw [q] at h1
    cases h1
    exact ⟨S1, Step.refl s2, by cases k <;> constructor⟩
theorem itr_keysT {S H : Hp} {kvs : List (List Key × V)} (h : S b = some (.frz o (.dT kvs))) : ItR K S H (kvs.map fun p => .tup (p.1.map keyPV)) (Itkt b o kvs) := by
  intro i S1 H1 s1 s2
  have hH := s2 _ _ (s1 _ _ h)
  refine ⟨fun hl => ⟨hH, by simpa using hl⟩, fun p e => ?_⟩
  rw [List.getElem?_map] at e
  cases q : kvs[i]? with
  | none => rw [q] at e; cases e
  | some kv =>
    rw [q] at e
    cases e
    refine ⟨⟨hH, (List.getElem?_eq_some_iff.mp q).1⟩, fun x H2 y => ?_⟩
    obtain ⟨rfl, k, v, c, h1, rfl, hc⟩ := y
    rw [q] at h1
    cases h1
    cases z : S1 c with
    | some w =>
      have e2 := s2 _ _ z
      rw [hc] at e2
      cases e2
      exact ⟨S1, Step.refl s2, .tup z (rep_keys k)⟩
    | none =>
      refine ⟨upd S1 c (.tup (k.map kV)), ⟨same_upd z, Same.refl _, fun d w e2 => ?_, fun d w e2 => ?_⟩, .tup upd_same (rep_keys k)⟩
      · by_cases hd : d = c
        · subst hd; rw [upd_same] at e2; cases e2; exact hc
        · rw [upd_ne hd] at e2; exact s2 _ _ e2
      · by_cases hd : d = c
        · subst hd; rw [upd_same] at e2; cases e2; exact .inr (.inr ⟨_, rfl⟩)
        · rw [upd_ne hd] at e2; exact .inl e2
end
def dLcD (own : List Nat) (i : Nat) (tgt : DenG) (test : DenB) (elt : Den) : Den := fun ρ => (dVar i ρ).bind fun p ρ1 => match p with
  | .dic _ ks _ => (match lcLoop own tgt test elt ks (lockE own ρ1) with
    | some (ys, ρ2) => if ys.length ≤ 1000000 then .ok (.lst ys) (backE own ρ1 ρ2) else .bad
    | none => .bad)
  | _ => .bad
def tLockR (t : TE) : TE := fun σ H Q => tLockE t σ H Q ∨ t σ H Q
section
variable {X : Cx} {W : WX} {fr : Bool} {k : Nat} {pos p p2 : Pos} {e a : Expr} {da db : Den} {x : Str}
theorem pe_lockR {t : TE} (h : PE X e t) : PE X e (tLockR t) := ⟨fun pins s σ H Q I q => by
  rcases q with q | q
  · exact (pe_lock h).run pins s σ H Q I q
  · exact h.run pins s σ H Q I q⟩
theorem fo_lcD {K : PySem.W.Frag} {mg : Str → Option Value} {i : Nat} {g : TG} {dg : DenG} {tt : TT} {dt : DenB} {te : TE} {de : Den} {own : List Nat} (hg : GOk K g dg) (hgw : TgW own g) (hgm : GMono g) (ht : TOk K mg (fun _ _ _ _ => False) tt dt) (he : EOk K mg (fun _ _ _ _ => False) te de) :
    FOk K mg W (tLockR (tLc (iKeys (tVar i)) g tt te own)) (dLcD own i dg dt de) := fun H₀ S₀ M S σ H ρ Q ab hp => by
  have key : tVar i σ H fun v H1 => ∃ p ρ1 S1, Abs K H₀ S₀ M S1 σ H1 ρ1 ∧ Rep K S1 p v ∧ Post K mg W (rF K) H₀ S₀ M σ (match p with
    | .dic _ ks _ => (match lcLoop own dg dt de ks (lockE own ρ1) with
      | some (ys, ρ2) => if ys.length ≤ 1000000 then .ok (.lst ys) (backE own ρ1 ρ2) else .bad
      | none => .bad)
    | _ => .bad) Q := eo_var.bind (mg := mg) (Rl' := rF K) ab hp fun p ρ1 v S1 H1 _ a1 _ r1 hp => ⟨p, ρ1, S1, a1, r1, hp⟩
  obtain ⟨v, hv, q, ρ1, S1, a1, r1, hp⟩ := key
  have lock : ∀ {u : HO} {b : Addr} {ks : List PV} (hu : isD u) (e : S1 b = some u) (od : Obj), Post K mg W (rF K) H₀ S₀ M σ (match lcLoop own dg dt de ks (lockE own ρ1) with
      | some (ys, ρ2) => if ys.length ≤ 1000000 then .ok (.lst ys) (backE own ρ1 ρ2) else .bad
      | none => .bad) Q → Post K mg W (rF K) (lk b u od H₀) (lk b u od S1) M σ (match lcLoop own dg dt de ks (lockE own ρ1) with
      | some (ys, ρ2) => if ys.length ≤ 1000000 then .ok (.lst ys) (backE own ρ1 ρ2) else .bad
      | none => .bad) (fun v H' => H' b = some (.frz od u) ∧ Q v (upd H' b u)) := by
    intro u b ks hu e od hp
    cases eL : lcLoop own dg dt de ks (lockE own ρ1) with
    | none => simp only [eL] at hp; exact hp.elim
    | some yr =>
      obtain ⟨ys, ρ2⟩ := yr
      simp only [eL] at hp ⊢
      by_cases hl : ys.length ≤ 1000000
      · rw [if_pos hl] at hp ⊢
        intro v S' H' a' f
        have fS := a'.base _ _ (lk_at e)
        have fH := a'.sub _ _ fS
        refine ⟨fH, ?_⟩
        rw [← ulk_upd fH]
        exact hp v _ _ (a1.unbase (Abs.ulk a1.rebase hu e a')) (Fr.ulk hu fS f)
      · rw [if_neg hl] at hp; exact hp.elim
  cases q with
  | dic t ks ps =>
    have r1 : Rep K S1 (.dic t ks ps) v := r1
    cases r1 with
    | @dK b kvs _ h1 h2 =>
      rcases h1 with e | ⟨o, e⟩
      · refine .inl ⟨b, .dK kvs, a1.sub _ _ e, trivial, fun od => ?_⟩
        rw [← lk_upd (o := od) (a1.sub _ _ e)]
        exact ⟨.ref b, hv, b, od, rfl, .inl ⟨kvs, lk_at (a1.sub _ _ e), lc_inner hg hgw hgm ht he (Abs.lk (u := .dK kvs) (o := od) a1.rebase trivial e) (itr_keysK (lk_at e)) (lock (u := .dK kvs) trivial e od hp)⟩⟩
      · exact .inr ⟨.ref b, hv, b, o, rfl, .inl ⟨kvs, a1.sub _ _ e, lc_inner hg hgw hgm ht he a1 (itr_keysK e) hp⟩⟩
    | @dT b kvs _ h1 h2 =>
      rcases h1 with e | ⟨o, e⟩
      · refine .inl ⟨b, .dT kvs, a1.sub _ _ e, trivial, fun od => ?_⟩
        rw [← lk_upd (o := od) (a1.sub _ _ e)]
        exact ⟨.ref b, hv, b, od, rfl, .inr ⟨kvs, lk_at (a1.sub _ _ e), lc_inner hg hgw hgm ht he (Abs.lk (u := .dT kvs) (o := od) a1.rebase trivial e) (itr_keysT (lk_at e)) (lock (u := .dT kvs) trivial e od hp)⟩⟩
      · exact .inr ⟨.ref b, hv, b, o, rfl, .inr ⟨kvs, a1.sub _ _ e, lc_inner hg hgw hgm ht he a1 (itr_keysT e) hp⟩⟩
  | _ => exact hp.elim
theorem df_lcD {elt tg : Expr} {ifs : List Expr} {scope : Scope} {g : TG} {dg : DenG} {dt : DenB} {de : Den} (i : Nat) (own : List (Str × Nat)) (c : Ctx X W k) (hv : PE X (.Name x p) (tVar i)) (hl : LG X.K (own.map (·.2)) g dg)
    (hg : ∀ (s : Shared) (H : Hp) (C : Addr) (cl : List (Str × Addr)) (fp : List Addr), DG (X.blk s H scope (PySem.compEnvC scope cl C X.env) fp) tg g dg) (ht : ∀ (s : Shared) (H : Hp) (C : Addr) (cl : List (Str × Addr)) (fp : List Addr), DTs (X.blk s H scope (PySem.compEnvC scope cl C X.env) fp) (fun _ _ _ _ => False) ifs dt)
    (he : ∀ (s : Shared) (H : Hp) (C : Addr) (cl : List (Str × Addr)) (fp : List Addr), DE (X.blk s H scope (PySem.compEnvC scope cl C X.env) fp) (fun _ _ _ _ => False) elt de) (ok : BlkOk X.N X.env.scope scope own := by exact blkOk_by (by decide +kernel)) (hs : ∀ z, foldedSetIterable (.Name x p) X.env z = pure z := by intro _; rfl) :
    DF X W (.ListComp elt [⟨tg, .Name x p, ifs, 0⟩] scope pos) (dLcD (own.map (·.2)) i dg dt de) :=
  DF.of (pe_lockR (pe_lc c.calm c.nd (pi_keys hv) ok (fun s H C cl fp => (hg s H C cl fp).pg) ht he hs)) (fo_lcD hl.ok hl.w hl.mono canon_ok canon_ok)
@[simp] theorem ap_dLcD {own : List Nat} {i : Nat} {dg : DenG} {dt : DenB} {ρ : Env} : dLcD own i dg dt da ρ = (dVar i ρ).bind fun p ρ1 => match p with
  | .dic _ ks _ => (match lcLoop own dg dt da ks (lockE own ρ1) with
    | some (ys, ρ2) => if ys.length ≤ 1000000 then .ok (.lst ys) (backE own ρ1 ρ2) else .bad
    | none => .bad)
  | _ => .bad := id rfl
end
/-- a measure: rows and columns of a list of lists -/
def muSheet (i : Nat) (ρ : Env) : Nat := match (ρ[i]? : Option Sl) with
  | some (.sh (.lst (.lst r :: rs))) => rs.length + r.length + 2
  | _ => 0
end PL

set_option Elab.async false
set_option linter.all false
set_option maxRecDepth 100000
set_option maxHeartbeats 4000000
namespace PL
open PySem PySem.Spec L2
set_option autoImplicit false
/-! ### comprehensions as maps -/
theorem map_lock_un {ρ : Env} {i : Nat} (h : ρ[i]? = some .un) : (ρ.map Sl.lock).set i .un = ρ.map Sl.lock := by
  have e : (ρ.map Sl.lock)[i]? = some .un := by rw [List.getElem?_map, h]; rfl
  obtain ⟨hi, e2⟩ := List.getElem?_eq_some_iff.mp e
  rw [← e2]
  exact List.set_getElem_self hi
theorem back_lock (s : Sl) : Sl.back s (Sl.lock s) = s := by cases s <;> rfl
theorem clean_un' {s : Sl} (h : s = .un) : clean s = s := by subst h; rfl
theorem back_all {ρ : Env} {i : Nat} (h : ρ[i]? = some .un) : backE [i] ρ (ρ.map Sl.lock) = ρ := by
  unfold backE
  refine List.ext_getElem (by simp) fun j h1 h2 => ?_
  rw [List.getElem_map, List.getElem_range]
  by_cases hj : j = i
  · subst hj
    obtain ⟨hi, e2⟩ := List.getElem?_eq_some_iff.mp h
    simp [h2, e2]
  · have e : [i].contains j = false := by simp [hj]
    rw [e]
    simp [h2, back_lock]
theorem lcE_un {ρ : Env} {i : Nat} (h : ρ[i]? = some .un) : lockE [i] ρ = ρ.map Sl.lock := by
  simp only [lockE]
  exact map_lock_un h
theorem lock_noOw (ρ : Env) : noOw (ρ.map Sl.lock) = true := by
  induction ρ with
  | nil => rfl
  | cons s r ih => rw [List.map_cons, noOw_cons, ih]; cases s <;> rfl
section
variable {α : Type} {i : Nat} {ρ : Env} {di : DenL} {E : Den} {T : DenB}
theorem dLc_ok (g f : α → PV) (l : List α) (hdi : di ρ = .ok (l.map g) ρ) (h0 : ρ[i]? = some .un) (hl : l.length ≤ 1000000) (hE : ∀ c ∈ l, E ((ρ.map Sl.lock).set i (.sh (g c))) = .ok (f c) ((ρ.map Sl.lock).set i (.sh (g c)))) :
    dLc [i] di (gName i) bYes E ρ = .ok (.lst (l.map f)) ρ := by
  have h1 : (ρ.map Sl.lock)[i]? = some .un := by rw [List.getElem?_map, h0]; rfl
  rw [ap_dLc, hdi]
  show (match lcLoop [i] (gName i) bYes E (l.map g) (lockE [i] ρ) with
    | some (ys, ρ2) => if ys.length ≤ 1000000 then Rs.ok (PV.lst ys) (backE [i] ρ ρ2) else .bad
    | none => .bad) = _
  rw [lcE_un h0, lc_pure g f l h1 (lock_noOw ρ) hE]
  simp only [List.length_map, hl, if_true, back_all h0]
theorem dLc_okR {n : Nat} (f : Nat → PV) (hdi : di ρ = .ok (rangeP 0 n) ρ) (h0 : ρ[i]? = some .un) (hl : n ≤ 1000000) (hE : ∀ c, c < n → E ((ρ.map Sl.lock).set i (.sh (.int (c : Nat)))) = .ok (f c) ((ρ.map Sl.lock).set i (.sh (.int (c : Nat))))) :
    dLc [i] di (gName i) bYes E ρ = .ok (.lst ((List.range n).map f)) ρ := by
  have e : rangeP 0 n = (List.range n).map fun i : Nat => PV.int (i : Int) := by simp [rangeP_map]
  rw [e] at hdi
  exact dLc_ok (fun c : Nat => PV.int (c : Int)) f _ hdi h0 (by simpa using hl) fun c hc => hE c (List.mem_range.mp hc)
theorem dLc_okF (g f : α → PV) (t : α → Bool) (l : List α) (hdi : di ρ = .ok (l.map g) ρ) (h0 : ρ[i]? = some .un) (hl : l.length ≤ 1000000) (hT : ∀ c ∈ l, T ((ρ.map Sl.lock).set i (.sh (g c))) = .ok (t c) ((ρ.map Sl.lock).set i (.sh (g c)))) (hE : ∀ c ∈ l, t c = true → E ((ρ.map Sl.lock).set i (.sh (g c))) = .ok (f c) ((ρ.map Sl.lock).set i (.sh (g c)))) :
    dLc [i] di (gName i) T E ρ = .ok (.lst ((l.filter t).map f)) ρ := by
  have h1 : (ρ.map Sl.lock)[i]? = some .un := by rw [List.getElem?_map, h0]; rfl
  have h2 := List.length_filter_le t l
  rw [ap_dLc, hdi]
  show (match lcLoop [i] (gName i) T E (l.map g) (lockE [i] ρ) with
    | some (ys, ρ2) => if ys.length ≤ 1000000 then Rs.ok (PV.lst ys) (backE [i] ρ ρ2) else .bad
    | none => .bad) = _
  rw [lcE_un h0, lc_pureF g f t l h1 (lock_noOw ρ) hT hE]
  simp only [List.length_map, show (l.filter t).length ≤ 1000000 by omega, if_true, back_all h0]
end
theorem atI_map {α : Type} {f : Nat → α} {n i : Nat} (h : i < n) : L2.atI ((List.range n).map f) (i : Int) = some (f i) := by
  rw [atI_nat (by simpa using h)]
  simp
theorem back_all2 {ρ : Env} {i : Nat} {s : Sl} (h : ρ[i]? = some s) (hc : clean s = s) : backE [i] ρ ((ρ.map Sl.lock).set i .un) = ρ := by
  unfold backE
  refine List.ext_getElem (by simp) fun j h1 h2 => ?_
  rw [List.getElem_map, List.getElem_range]
  by_cases hj : j = i
  · subst hj
    obtain ⟨hi, e2⟩ := List.getElem?_eq_some_iff.mp h
    simp [h2, e2, hc]
  · have e : [i].contains j = false := by simp [hj]
    rw [e]
    simp [h2, back_lock, Ne.symm hj]
theorem isOw_lock (s : Sl) : (Sl.lock s).isOw = false := by cases s <;> rfl
theorem noOw_un {ρ : Env} (i : Nat) (h : noOw ρ = true) : noOw (ρ.set i .un) = true := by
  induction ρ generalizing i with
  | nil => simpa using h
  | cons s r ih =>
    rw [noOw_cons, Bool.and_eq_true] at h
    cases i with
    | zero => simp [h.2]
    | succ i => rw [List.set_cons_succ, noOw_cons, h.1, ih i h.2]; rfl
section
variable {α : Type} {i : Nat} {ρ : Env} {di : DenL} {E : Den} {T : DenB}
/-- the name has had a value before -/
theorem dLc_ok2 (g f : α → PV) (l : List α) {s : Sl} (hdi : di ρ = .ok (l.map g) ρ) (h0 : ρ[i]? = some s) (hc : clean s = s) (hl : l.length ≤ 1000000) (hE : ∀ c ∈ l, E ((ρ.map Sl.lock).set i (.sh (g c))) = .ok (f c) ((ρ.map Sl.lock).set i (.sh (g c)))) :
    dLc [i] di (gName i) bYes E ρ = .ok (.lst (l.map f)) ρ := by
  have hi : i < ρ.length := (List.getElem?_eq_some_iff.mp h0).1
  have h1 : ((ρ.map Sl.lock).set i .un)[i]? = some .un := List.getElem?_set_self (by simpa using hi)
  rw [ap_dLc, hdi]
  show (match lcLoop [i] (gName i) bYes E (l.map g) (lockE [i] ρ) with
    | some (ys, ρ2) => if ys.length ≤ 1000000 then Rs.ok (PV.lst ys) (backE [i] ρ ρ2) else .bad
    | none => .bad) = _
  rw [show lockE [i] ρ = (ρ.map Sl.lock).set i .un from rfl, lc_pure g f l h1 (noOw_un i (lock_noOw ρ)) (fun c hc => by rw [List.set_set]; exact hE c hc)]
  simp only [List.length_map, hl, if_true, back_all2 h0 hc]
end
end PL

set_option Elab.async false
set_option linter.all false
set_option maxRecDepth 100000
set_option maxHeartbeats 4000000
namespace PL.K72
open PySem PySem.Spec L2 PL
open PyProof.Rows hiding St
set_option autoImplicit false
def top (i : Nat) : Stmt := PySem.Challenge.pw_presswork_k72_whole_sheets_folded.main.body.getD i (.Pass ⟨0, 0, 0, 0⟩)

abbrev errs : List Str := [("InvalidSheet" : Str), ("TooMany" : Str)]
abbrev c_MOST_LEAVES : PV := .int (64)
abbrev c_SIDES : PV := .ktup [.str ("bottom" : Str), .str ("left" : Str), .str ("right" : Str), .str ("top" : Str)]
abbrev c_WAYS : PV := .ktup [.str ("over" : Str), .str ("under" : Str)]
abbrev s__law_deck : Stmt := top 21
abbrev s__law_plain_sheet : Stmt := top 25
abbrev s__law_one_fold : Stmt := top 24
abbrev s__law_take : Stmt := top 22
abbrev s__law_folds : Stmt := top 26
abbrev s_check_size : Stmt := top 8
abbrev s_is_fold : Stmt := top 9
abbrev s_exchanged : Stmt := top 14
abbrev s_mirrored : Stmt := top 13
abbrev s_over_side : Stmt := top 11
abbrev s_over_top : Stmt := top 12
abbrev s_folded_right : Stmt := top 15
abbrev s_one_fold : Stmt := top 16
abbrev s_all_folds : Stmt := top 17
abbrev s_plain : Stmt := top 10
abbrev s_folded : Stmt := top 18
abbrev s_heap_of : Stmt := top 19
abbrev s__law_refusal : Stmt := top 27
abbrev s__law_plain : Stmt := top 23
abbrev s_law : Stmt := top 28
abbrev F__law_deck := F_deck
def E__law_plain_sheet_2 : Den :=
  (dLst (dCons (dTup (dCons (dVar 3) (dCons (dVar 2) (dCons (dC (.str ("front" : Str))) (dCons (dC (.bl false)) dNil))))) dNil))
def E__law_plain_sheet_1 : Den :=
  (dLc [2] (iR1 (dCons (dVar 1) dNil)) (gName 2) bYes E__law_plain_sheet_2)
def den__law_plain_sheet : DenS :=
  (sRet (dLc [3] (iR1 (dCons (dVar 0) dNil)) (gName 3) bYes E__law_plain_sheet_1))
def F__law_plain_sheet : List PV → FR := runD false false 2 4 den__law_plain_sheet
def B__law_one_fold_3 : DenS :=
  (sExpr (dMut "list" gAppend 13 (dCons (dTup (dCons (dVar 14) (dCons (dVar 15) (dCons (dIf (bVal (d2 gEq (dVar 16) (dC (.str ("front" : Str))))) (dC (.str ("back" : Str))) (dC (.str ("front" : Str)))) (dCons (d2 gNe (dVar 17) (dVar 12)) dNil))))) dNil)))
def B__law_one_fold_2 : DenS :=
  (sSeq (sSet 9 (dC (.bl false)))
    (sSeq (sSet 10 (dTup (dCons (dVar 7) (dCons (dVar 8) dNil))))
    (sSeq (sIf (bAnd (bVal (d2 gEq (dVar 1) (dC (.str ("right" : Str))))) (bVal (d2 gGe (dVar 8) (dVar 2)))) (sPar 9 10 (dCons (dC (.bl true)) (dCons (dTup (dCons (dVar 7) (dCons (dSub (dSub (dMul (dC (.int 2)) (dVar 2)) (dC (.int 1))) (dVar 8)) dNil))) dNil))) sNx)
    (sSeq (sIf (bAnd (bVal (d2 gEq (dVar 1) (dC (.str ("left" : Str))))) (bVal (d2 gLt (dVar 8) (dVar 2)))) (sPar 9 10 (dCons (dC (.bl true)) (dCons (dTup (dCons (dVar 7) (dCons (dSub (dSub (dMul (dC (.int 2)) (dVar 2)) (dC (.int 1))) (dVar 8)) dNil))) dNil))) sNx)
    (sSeq (sIf (bAnd (bVal (d2 gEq (dVar 1) (dC (.str ("bottom" : Str))))) (bVal (d2 gGe (dVar 7) (dVar 2)))) (sPar 9 10 (dCons (dC (.bl true)) (dCons (dTup (dCons (dSub (dSub (dMul (dC (.int 2)) (dVar 2)) (dC (.int 1))) (dVar 7)) (dCons (dVar 8) dNil))) dNil))) sNx)
    (sSeq (sIf (bAnd (bVal (d2 gEq (dVar 1) (dC (.str ("top" : Str))))) (bVal (d2 gLt (dVar 7) (dVar 2)))) (sPar 9 10 (dCons (dC (.bl true)) (dCons (dTup (dCons (dSub (dSub (dMul (dC (.int 2)) (dVar 2)) (dC (.int 1))) (dVar 7)) (dCons (dVar 8) dNil))) dNil))) sNx)
    (sSeq (sSet 11 (d2 gIx (d2 gIx (dVar 0) (dVar 7)) (dVar 8)))
    (sSeq (sIf (bTruV 9) (sSeq (sSet 12 (d2 (gInT false) (dVar 1) (dTup (dCons (dC (.str ("bottom" : Str))) (dCons (dC (.str ("top" : Str))) dNil)))))
    (sSeq (sSetF 13 (dLst dNil))
    (sSeq (sFor (iSeq (dRevL (dVar 11))) (gTup (gsCons (gName 14) (gsCons (gName 15) (gsCons (gName 16) (gsCons (gName 17) gsNil))))) B__law_one_fold_3)
    (sSet 11 (dVar 13))))) sNx)
    (sSeq (sSet 18 (dGet2v 6 (dVar 10) (dLst dNil)))
    (sIf (bVal (d2 gEq (dN gLenN (dCons (dVar 18) dNil)) (dC (.int 0)))) (sPutD 6 (dVar 10) (dVar 11)) (sIf (bVal (d2 gEq (dVar 9) (d2 gEq (dVar 3) (dC (.str ("over" : Str)))))) (sPutD 6 (dVar 10) (dAdd (dVar 11) (dVar 18))) (sPutD 6 (dVar 10) (dAdd (dVar 18) (dVar 11))))))))))))))
def B__law_one_fold_1 : DenS :=
  (sFor (iR1 (dCons (dVar 5) dNil)) (gName 8) B__law_one_fold_2)
def E__law_one_fold_4 : Den :=
  (dVar 7)
def E__law_one_fold_5 : Den :=
  (dVar 8)
def E__law_one_fold_7 : Den :=
  (d2l gDG 6 (dTup (dCons (dVar 7) (dCons (dVar 8) dNil))))
def E__law_one_fold_6 : Den :=
  (dLc [8] (iSeq (dVar 20)) (gName 8) bYes E__law_one_fold_7)
def den__law_one_fold : DenS :=
  (sSeq (sSet 4 (dN gLenN (dCons (dVar 0) dNil)))
    (sSeq (sSet 5 (dN gLenN (dCons (d2 gIx (dVar 0) (dC (.int 0))) dNil)))
    (sSeq (sSetF 6 (dC (.dic true [] [])))
    (sSeq (sFor (iR1 (dCons (dVar 4) dNil)) (gName 7) B__law_one_fold_1)
    (sSeq (sSet 19 (dSortSet (dLcD [7, 8] 6 (gTup (gsCons (gName 7) (gsCons (gName 8) gsNil))) bYes E__law_one_fold_4)))
    (sSeq (sSet 20 (dSortSet (dLcD [7, 8] 6 (gTup (gsCons (gName 7) (gsCons (gName 8) gsNil))) bYes E__law_one_fold_5)))
    (sRet (dLc [7] (iSeq (dVar 19)) (gName 7) bYes E__law_one_fold_6))))))))
def F__law_one_fold : List PV → FR := runD false false 4 21 den__law_one_fold
abbrev F__law_take := F_take
def B__law_folds_1 : DenS :=
  (sSeq (sSet 5 (dLst dNil))
    (sSeq (sIf (bVal (d2 gGt (dN gLenN (dCons (d2 gIx (dVar 3) (dC (.int 0))) dNil)) (dC (.int 1)))) (sSet 5 (dAdd (dVar 5) (dLst (dCons (dC (.str ("left" : Str))) (dCons (dC (.str ("right" : Str))) dNil))))) sNx)
    (sSeq (sIf (bVal (d2 gGt (dN gLenN (dCons (dVar 3) dNil)) (dC (.int 1)))) (sSet 5 (dAdd (dVar 5) (dLst (dCons (dC (.str ("top" : Str))) (dCons (dC (.str ("bottom" : Str))) dNil))))) sNx)
    (sSeq (sSet 6 (d2 gIx (dVar 5) (dCallIo F__law_take 0 (dCons (dN gLenN (dCons (dVar 5) dNil)) dNil))))
    (sSeq (sSet 7 (dIf (bVal (d2 (gInT false) (dVar 6) (dTup (dCons (dC (.str ("left" : Str))) (dCons (dC (.str ("right" : Str))) dNil))))) (dN gLenN (dCons (d2 gIx (dVar 3) (dC (.int 0))) dNil)) (dN gLenN (dCons (dVar 3) dNil))))
    (sSeq (sSet 8 (dAdd (dC (.int 1)) (dCallIo F__law_take 0 (dCons (dSub (dVar 7) (dC (.int 1))) dNil))))
    (sSeq (sIf (bAnd (bVal (d2 gEq (dCallIo F__law_take 0 (dCons (dC (.int 2)) dNil)) (dC (.int 0)))) (bVal (d2 gEq (dMod (dN gInt (dCons (dVar 7) dNil)) (dC (.int 2))) (dC (.int 0))))) (sSet 8 (dFdivW (dVar 7) (dC (.int 2)))) sNx)
    (sSeq (sSet 9 (d2 gIx (dLst (dCons (dC (.str ("over" : Str))) (dCons (dC (.str ("under" : Str))) dNil))) (dCallIo F__law_take 0 (dCons (dC (.int 2)) dNil))))
    (sSeq (sExpr (dMut "list" gAppend 4 (dCons (dTup (dCons (dVar 6) (dCons (dVar 8) (dCons (dVar 9) dNil)))) dNil)))
    (sSet 3 (dCall F__law_one_fold (dCons (dVar 3) (dCons (dVar 6) (dCons (dVar 8) (dCons (dVar 9) dNil)))))))))))))))
def den__law_folds : DenS :=
  (sSeq (sSet 3 (dCall F__law_plain_sheet (dCons (dVar 1) (dCons (dVar 2) dNil))))
    (sSeq (sSetF 4 (dLst dNil))
    (sSeq (sWhile (muSheet 3) (bOr (bVal (d2 gGt (dN gLenN (dCons (dVar 3) dNil)) (dC (.int 1)))) (bVal (d2 gGt (dN gLenN (dCons (d2 gIx (dVar 3) (dC (.int 0))) dNil)) (dC (.int 1))))) B__law_folds_1)
    (sRet (dTup (dCons (dVar 4) (dCons (dVar 3) dNil)))))))
def F__law_folds : List PV → FR := runD true false 3 10 den__law_folds
def den_check_size : DenS :=
  (sSeq (sIf (bOr (bVal (d2 gLt (dVar 0) (dC (.int 1)))) (bVal (d2 gLt (dVar 1) (dC (.int 1))))) (sRaise ("InvalidSheet" : Str) "what" (dC (.str ("size" : Str)))) sNx)
    (sIf (bVal (d2 gGt (dMul (dVar 0) (dVar 1)) (dC c_MOST_LEAVES))) (sRaise ("TooMany" : Str) "what" (dC (.str ("leaves" : Str)))) sNx))
def F_check_size : List PV → FR := runD false false 2 2 den_check_size
def den_is_fold : DenS :=
  (sSeq (sIf (bOr (bNot (bTru (d1 (gIsi "tuple") (dVar 0)))) (bOr (bVal (d2 gNe (dN gLenN (dCons (dVar 0) dNil)) (dC (.int 3)))) (bOr (bVal (d2 (gInT true) (d2 gIx (dVar 0) (dC (.int 0))) (dC c_SIDES))) (bVal (d2 (gInT true) (d2 gIx (dVar 0) (dC (.int 2))) (dC c_WAYS)))))) (sRet (dC (.bl false))) sNx)
    (sRet (dAndT (d1 (gIsi "int") (d2 gIx (dVar 0) (dC (.int 1)))) (dNotT (d1 (gIsi "bool") (d2 gIx (dVar 0) (dC (.int 1))))))))
def F_is_fold : List PV → FR := runD false false 1 1 den_is_fold
def E_exchanged_2 : Den :=
  (d2 gIx (dVar 1) (dVar 2))
def E_exchanged_1 : Den :=
  (dLc [1] (iSeq (dVar 0)) (gName 1) bYes E_exchanged_2)
def den_exchanged : DenS :=
  (sRet (dLc [2] (iR1 (dCons (dN gLenN (dCons (d2 gIx (dVar 0) (dC (.int 0))) dNil)) dNil)) (gName 2) bYes E_exchanged_1))
def F_exchanged : List PV → FR := runD false false 1 3 den_exchanged
def E_mirrored_1 : Den :=
  (dRevL (dVar 1))
def den_mirrored : DenS :=
  (sRet (dLc [1] (iSeq (dVar 0)) (gName 1) bYes E_mirrored_1))
def F_mirrored : List PV → FR := runD false false 1 2 den_mirrored
def den_over_side : DenS :=
  (sSeq (sAsg (dVar 0) (gTup (gsCons (gName 1) (gsCons (gName 2) (gsCons (gName 3) (gsCons (gName 4) gsNil))))))
    (sRet (dTup (dCons (dVar 1) (dCons (dVar 2) (dCons (dIf (bVal (d2 gEq (dVar 3) (dC (.str ("front" : Str))))) (dC (.str ("back" : Str))) (dC (.str ("front" : Str)))) (dCons (dVar 4) dNil)))))))
def F_over_side : List PV → FR := runD false false 1 5 den_over_side
def den_over_top : DenS :=
  (sSeq (sAsg (dVar 0) (gTup (gsCons (gName 1) (gsCons (gName 2) (gsCons (gName 3) (gsCons (gName 4) gsNil))))))
    (sRet (dTup (dCons (dVar 1) (dCons (dVar 2) (dCons (dIf (bVal (d2 gEq (dVar 3) (dC (.str ("front" : Str))))) (dC (.str ("back" : Str))) (dC (.str ("front" : Str)))) (dCons (dNotT (dVar 4)) dNil)))))))
def F_over_top : List PV → FR := runD false false 1 5 den_over_top
def E_folded_right_3 : Den :=
  (dCallV 3 ("over_side" : Str) F_over_side ("over_top" : Str) F_over_top (dCons (dVar 13) dNil))
def E_folded_right_2 : Den :=
  (dLc [13] (iSeq (dRevL (dVar 14))) (gName 13) bYes E_folded_right_3)
def B_folded_right_4 : DenS :=
  (sSeq (sSet 11 (dIf (bVal (d2 gLt (dVar 10) (dVar 1))) (d2 gIx (dVar 6) (dSub (dSub (dVar 1) (dC (.int 1))) (dVar 10))) (dLst dNil)))
    (sSeq (sSet 12 (dIf (bVal (d2 gLt (dVar 10) (dN gLenN (dCons (dVar 7) dNil)))) (d2 gIx (dVar 7) (dVar 10)) (dLst dNil)))
    (sExpr (dMut "list" gAppend 9 (dCons (dIf (bVal (d2 gEq (dVar 2) (dC (.str ("over" : Str))))) (dAdd (dVar 12) (dVar 11)) (dAdd (dVar 11) (dVar 12))) dNil)))))
def B_folded_right_1 : DenS :=
  (sSeq (sSet 6 (dSl gSl (dVar 5) oNone (oSome (dVar 1))))
    (sSeq (sSet 7 (dLc [14] (iSeq (dSl gSl (dVar 5) (oSome (dVar 1)) oNone)) (gName 14) bYes E_folded_right_2))
    (sSeq (sSet 8 (dN gMax2 (dCons (dVar 1) (dCons (dN gLenN (dCons (dVar 7) dNil)) dNil))))
    (sSeq (sSetF 9 (dLst dNil))
    (sSeq (sFor (iR1 (dCons (dVar 8) dNil)) (gName 10) B_folded_right_4)
    (sExpr (dMut "list" gAppend 4 (dCons (dRevL (dVar 9)) dNil))))))))
def den_folded_right : DenS :=
  (sSeq (sSetF 4 (dLst dNil))
    (sSeq (sFor (iSeq (dVar 0)) (gName 5) B_folded_right_1)
    (sRet (dVar 4))))
def F_folded_right : List PV → FR := runD false false 4 15 den_folded_right
def den_one_fold : DenS :=
  (sSeq (sAsg (dVar 1) (gTup (gsCons (gName 2) (gsCons (gName 3) (gsCons (gName 4) gsNil)))))
    (sSeq (sIf (bVal (d2 (gInT false) (dVar 2) (dTup (dCons (dC (.str ("right" : Str))) (dCons (dC (.str ("left" : Str))) dNil))))) (sSeq (sIf (bNot (bVal (dChain gLt gLt (dC (.int 0)) (dVar 3) (dN gLenN (dCons (d2 gIx (dVar 0) (dC (.int 0))) dNil))))) (sRet (dC .non)) sNx)
    (sSeq (sIf (bVal (d2 gEq (dVar 2) (dC (.str ("right" : Str))))) (sRet (dCall F_folded_right (dCons (dVar 0) (dCons (dVar 3) (dCons (dVar 4) (dCons (dC (.fn ("over_side" : Str))) dNil)))))) sNx)
    (sRet (dCall F_mirrored (dCons (dCall F_folded_right (dCons (dCall F_mirrored (dCons (dVar 0) dNil)) (dCons (dSub (dN gLenN (dCons (d2 gIx (dVar 0) (dC (.int 0))) dNil)) (dVar 3)) (dCons (dVar 4) (dCons (dC (.fn ("over_side" : Str))) dNil))))) dNil))))) sNx)
    (sSeq (sIf (bNot (bVal (dChain gLt gLt (dC (.int 0)) (dVar 3) (dN gLenN (dCons (dVar 0) dNil))))) (sRet (dC .non)) sNx)
    (sSeq (sSet 5 (dCall F_exchanged (dCons (dVar 0) dNil)))
    (sSeq (sIf (bVal (d2 gEq (dVar 2) (dC (.str ("bottom" : Str))))) (sRet (dCall F_exchanged (dCons (dCall F_folded_right (dCons (dVar 5) (dCons (dVar 3) (dCons (dVar 4) (dCons (dC (.fn ("over_top" : Str))) dNil))))) dNil))) sNx)
    (sRet (dCall F_exchanged (dCons (dCall F_mirrored (dCons (dCall F_folded_right (dCons (dCall F_mirrored (dCons (dVar 5) dNil)) (dCons (dSub (dN gLenN (dCons (dVar 0) dNil)) (dVar 3)) (dCons (dVar 4) (dCons (dC (.fn ("over_top" : Str))) dNil))))) dNil)) dNil))))))))
def F_one_fold : List PV → FR := runD false false 2 6 den_one_fold
def B_all_folds_1 : DenS :=
  (sSeq (sSet 2 (dIf (bTru (dCall F_is_fold (dCons (dVar 3) dNil))) (dCall F_one_fold (dCons (dVar 2) (dCons (dVar 3) dNil))) (dC .non)))
    (sIf (bVal (d2 (gIsN false) (dVar 2) (dC .non))) (sRet (dC .non)) sNx))
def den_all_folds : DenS :=
  (sSeq (sSet 2 (dVar 0))
    (sSeq (sFor (iSeq (dVar 1)) (gName 3) B_all_folds_1)
    (sRet (dVar 2))))
def F_all_folds : List PV → FR := runD false false 2 4 den_all_folds
def E_plain_2 : Den :=
  (dLst (dCons (dTup (dCons (dVar 3) (dCons (dVar 2) (dCons (dC (.str ("front" : Str))) (dCons (dC (.bl false)) dNil))))) dNil))
def E_plain_1 : Den :=
  (dLc [2] (iR1 (dCons (dVar 1) dNil)) (gName 2) bYes E_plain_2)
def den_plain : DenS :=
  (sRet (dLc [3] (iR1 (dCons (dVar 0) dNil)) (gName 3) bYes E_plain_1))
def F_plain : List PV → FR := runD false false 2 4 den_plain
def den_folded : DenS :=
  (sSeq (sExpr (dCall F_check_size (dCons (dVar 0) (dCons (dVar 1) dNil))))
    (sSeq (sSet 3 (dCall F_all_folds (dCons (dCall F_plain (dCons (dVar 0) (dCons (dVar 1) dNil))) (dCons (dVar 2) dNil))))
    (sSeq (sIf (bVal (d2 (gIsN false) (dVar 3) (dC .non))) (sRaise ("InvalidSheet" : Str) "what" (dC (.str ("fold" : Str)))) sNx)
    (sRet (dVar 3)))))
def F_folded : List PV → FR := runD false false 3 4 den_folded
def den_heap_of : DenS :=
  (sSeq (sSet 3 (dCall F_folded (dCons (dVar 0) (dCons (dVar 1) (dCons (dVar 2) dNil)))))
    (sSeq (sIf (bOr (bVal (d2 gNe (dN gLenN (dCons (dVar 3) dNil)) (dC (.int 1)))) (bVal (d2 gNe (dN gLenN (dCons (d2 gIx (dVar 3) (dC (.int 0))) dNil)) (dC (.int 1))))) (sRaise ("InvalidSheet" : Str) "what" (dC (.str ("open" : Str)))) sNx)
    (sRet (d2 gIx (d2 gIx (dVar 3) (dC (.int 0))) (dC (.int 0))))))
def F_heap_of : List PV → FR := runD false false 3 4 den_heap_of
def den__law_refusal : DenS :=
  (sSeq (sTry [("InvalidSheet" : Str), ("TooMany" : Str)] "what" 4 (sIf (bVal (d2 gEq (dVar 0) (dC (.int 0)))) (sExpr (dCall F_folded (dCons (dVar 1) (dCons (dVar 2) (dCons (dVar 3) dNil))))) (sExpr (dCall F_heap_of (dCons (dVar 1) (dCons (dVar 2) (dCons (dVar 3) dNil)))))))
    (sRet (dC .non)))
def F__law_refusal : List PV → FR := runD false false 4 5 den__law_refusal
abbrev F__law_plain_ := F_plain_
abbrev F__law_plain : List PV → FR := F__law_plain_ 7
def B_law_2 : DenS :=
  (sSeq (sIf (bVal (d2 gNe (dCall F__law_plain (dCons (dCall F_folded (dCons (dVar 3) (dCons (dVar 4) (dCons (dSl gSl (dVar 5) oNone (oSome (dVar 8))) dNil)))) dNil)) (dCall F__law_plain (dCons (dVar 7) dNil)))) (sRet (dC (.bl false))) sNx)
    (sIf (bVal (d2 gLt (dVar 8) (dN gLenN (dCons (dVar 5) dNil)))) (sSeq (sIf (bVal (d2 gNe (dCall F__law_refusal (dCons (dC (.int 1)) (dCons (dVar 3) (dCons (dVar 4) (dCons (dSl gSl (dVar 5) oNone (oSome (dVar 8))) dNil))))) (dC (.str ("open" : Str))))) (sRet (dC (.bl false))) sNx)
    (sSet 7 (dCall F__law_one_fold (dCons (dVar 7) (dCons (d2 gIx (d2 gIx (dVar 5) (dVar 8)) (dC (.int 0))) (dCons (d2 gIx (d2 gIx (dVar 5) (dVar 8)) (dC (.int 1))) (dCons (d2 gIx (d2 gIx (dVar 5) (dVar 8)) (dC (.int 2))) dNil))))))) sNx))
def B_law_1 : DenS :=
  (sSeq (sSet 3 (dAdd (dC (.int 1)) (dCallIo F__law_take 1 (dCons (dC (.int 4)) dNil))))
    (sSeq (sSet 4 (dAdd (dC (.int 1)) (dCallIo F__law_take 1 (dCons (dC (.int 5)) dNil))))
    (sSeq (sAsg (dCallIo F__law_folds 1 (dCons (dVar 3) (dCons (dVar 4) dNil))) (gTup (gsCons (gName 5) (gsCons (gName 6) gsNil))))
    (sSeq (sSet 7 (dCall F__law_plain_sheet (dCons (dVar 3) (dCons (dVar 4) dNil))))
    (sSeq (sFor (iR1 (dCons (dAdd (dN gLenN (dCons (dVar 5) dNil)) (dC (.int 1))) dNil)) (gName 8) B_law_2)
    (sSeq (sIf (bVal (d2 gNe (dCall F__law_plain (dCons (dCall F_heap_of (dCons (dVar 3) (dCons (dVar 4) (dCons (dVar 5) dNil)))) dNil)) (dCall F__law_plain (dCons (d2 gIx (d2 gIx (dVar 6) (dC (.int 0))) (dC (.int 0))) dNil)))) (sRet (dC (.bl false))) sNx)
    (sSeq (sSet 9 (dCallIo F__law_take 1 (dCons (dC (.int 2)) dNil)))
    (sSeq (sSet 10 (dLst (dCons (dTup (dCons (dC (.str ("right" : Str))) (dCons (dC (.int 0)) (dCons (dC (.str ("over" : Str))) dNil)))) (dCons (dTup (dCons (dC (.str ("left" : Str))) (dCons (dVar 4) (dCons (dC (.str ("over" : Str))) dNil)))) (dCons (dTup (dCons (dC (.str ("top" : Str))) (dCons (dVar 3) (dCons (dC (.str ("under" : Str))) dNil)))) (dCons (dTup (dCons (dC (.str ("down" : Str))) (dCons (dC (.int 1)) (dCons (dC (.str ("over" : Str))) dNil)))) dNil))))))
    (sSeq (sSet 10 (dAdd (dVar 10) (dLst (dCons (dTup (dCons (dC (.str ("right" : Str))) (dCons (dC (.int 1)) (dCons (dC (.str ("in" : Str))) dNil)))) (dCons (dTup (dCons (dC (.str ("right" : Str))) (dCons (dC (.int 1)) dNil))) (dCons (dLst (dCons (dC (.str ("right" : Str))) (dCons (dC (.int 1)) (dCons (dC (.str ("over" : Str))) dNil)))) (dCons (dTup (dCons (dC (.str ("bottom" : Str))) (dCons (dNeg (dC (.int 1))) (dCons (dC (.str ("over" : Str))) dNil)))) (dCons (dC .non) dNil))))))))
    (sSeq (sIf (bVal (d2 gNe (dCall F__law_refusal (dCons (dVar 9) (dCons (dVar 3) (dCons (dVar 4) (dCons (dLst (dCons (d2 gIx (dVar 10) (dCallIo F__law_take 1 (dCons (dC (.int 9)) dNil))) dNil)) dNil))))) (dC (.str ("fold" : Str))))) (sRet (dC (.bl false))) sNx)
    (sIf (bVal (d2 gNe (dCall F__law_refusal (dCons (dVar 9) (dCons (dVar 3) (dCons (dVar 4) (dCons (dAdd (dVar 5) (dLst (dCons (dTup (dCons (dC (.str ("right" : Str))) (dCons (dC (.int 1)) (dCons (dC (.str ("over" : Str))) dNil)))) dNil))) dNil))))) (dC (.str ("fold" : Str))))) (sRet (dC (.bl false))) sNx)))))))))))
def den_law : DenS :=
  (sSeq (sSetF 1 (dCall F__law_deck (dCons (dVar 0) (dCons (dC (.int 60)) (dCons (dC (.int 14)) dNil)))))
    (sSeq (sFor (iR1 (dCons (dC (.int 2)) dNil)) (gName 2) B_law_1)
    (sSeq (sSet 11 (dLst (dCons (dCall F__law_refusal (dCons (dVar 9) (dCons (dC (.int 0)) (dCons (dC (.int 99)) (dCons (dLst dNil) dNil))))) (dCons (dCall F__law_refusal (dCons (dVar 9) (dCons (dC (.int 2)) (dCons (dC (.int 0)) (dCons (dLst (dCons (dC .non) dNil)) dNil))))) (dCons (dCall F__law_refusal (dCons (dVar 9) (dCons (dC (.int 13)) (dCons (dC (.int 5)) (dCons (dLst (dCons (dC .non) dNil)) dNil))))) dNil)))))
    (sRet (d2 gEq (dVar 11) (dLst (dCons (dC (.str ("size" : Str))) (dCons (dC (.str ("size" : Str))) (dCons (dC (.str ("leaves" : Str))) dNil)))))))))
def F_law : List PV → FR := runD false false 1 12 den_law
section
variable {P : Program} {w : World} {K : PySem.W.Frag} {mg : Str → Option Value} {base : Heap}
abbrev i_InvalidSheet : Stmt := inClass (top 2) 0
theorem sc_i_InvalidSheet : FnScope [("self" : Str), ("what" : Str)] [("self" : Str), ("what" : Str)] (defScope i_InvalidSheet) := ⟨rfl, rfl, rfl, by decide +kernel, rfl, by decide +kernel, by decide +kernel⟩
theorem E_InvalidSheet {fd : FuncData} (E : EcK K ("InvalidSheet" : Str) "what") (hm : mg ("InvalidSheet" : Str) = some (.ref (He.ga K ("InvalidSheet" : Str)))) (T : PeK K "PressError") (hp : mg "PressError" = some (.ref (He.ga K "PressError"))) (F : FnP K "__init__" "InvalidSheet.__init__" i_InvalidSheet (He.ma K (He.ga K ("InvalidSheet" : Str)) "__init__") fd) : Ec P w K mg base ("InvalidSheet" : Str) "what" :=
  ec_ok (txt := ("invalid sheet: " : Str)) E hm F sc_i_InvalidSheet (fun _ _ _ _ _ _ us hl => match us, hl with | [_, _], _ => rfl) (by decide) fun cdv A outer s H E =>
    pss_cons (ps_expr (pe_baseinit T rfl hp (pa_cons (pv 0) (pa_cons (pe_op op_add_str pe_str (pv 1)) pa_nil)))) (pss_one (ps_ost (pv 0) (pv 1)))
abbrev i_TooMany : Stmt := inClass (top 3) 0
theorem sc_i_TooMany : FnScope [("self" : Str), ("what" : Str)] [("self" : Str), ("what" : Str)] (defScope i_TooMany) := ⟨rfl, rfl, rfl, by decide +kernel, rfl, by decide +kernel, by decide +kernel⟩
theorem E_TooMany {fd : FuncData} (E : EcK K ("TooMany" : Str) "what") (hm : mg ("TooMany" : Str) = some (.ref (He.ga K ("TooMany" : Str)))) (T : PeK K "PressError") (hp : mg "PressError" = some (.ref (He.ga K "PressError"))) (F : FnP K "__init__" "TooMany.__init__" i_TooMany (He.ma K (He.ga K ("TooMany" : Str)) "__init__") fd) : Ec P w K mg base ("TooMany" : Str) "what" :=
  ec_ok (txt := ("too many " : Str)) E hm F sc_i_TooMany (fun _ _ _ _ _ _ us hl => match us, hl with | [_, _], _ => rfl) (by decide) fun cdv A outer s H E =>
    pss_cons (ps_expr (pe_baseinit T rfl hp (pa_cons (pv 0) (pa_cons (pe_op op_add_str pe_str (pv 1)) pa_nil)))) (pss_one (ps_ost (pv 0) (pv 1)))
theorem sc__law_deck : FnScope [("script" : Str), ("cells" : Str), ("each" : Str), ("deck" : Str), ("seed" : Str), ("k" : Str), ("cell" : Str), ("rest" : Str), ("at" : Str)] [("script" : Str), ("cells" : Str), ("each" : Str)] (defScope s__law_deck) := ⟨rfl, rfl, rfl, by decide +kernel, rfl, by decide +kernel, by decide +kernel⟩
theorem G__law_deck {f : Addr} {fd : FuncData} (B : Bi mg) (F : FnP K ("_law_deck" : Str) ("_law_deck" : Str) s__law_deck f fd) (hm : mg ("_law_deck" : Str) = some (.ref f)) : Fd P w K mg base ("_law_deck" : Str) 1 false true 3 F__law_deck := by
  exact fd_okD (k := 0) F hm sc__law_deck (fun _ _ _ _ _ _ us hl => match us, hl with | [_, _, _], _ => rfl) (by decide) fun cdv A outer s H E c po =>
    (dss_cons (ds_setF c 3 (df_lst da_nil))
    (dss_cons (ds_set c 4 (de_add de_int (de_len B (da_cons (de_var 0) da_nil))))
    (dss_cons (ds_for po c (di_r1 B (da_cons (de_var 1) da_nil)) (dg_name c 5) (dss_cons (ds_set c 6 de_int)
    (dss_cons (ds_if (dt_cmp cr_lt (de_var 5) (de_len B (da_cons (de_var 0) da_nil))) (dss_one (ds_set c 6 (de_ix (de_var 0) (de_var 5)))) dss_nil)
    (dss_cons (ds_set c 7 (de_abs B (da_cons (de_var 6) da_nil)))
    (dss_one (ds_if (dt_cmp cr_ge (de_var 7) (de_pow de_int de_int)) (dss_one (ds_for po c (di_r1 B (da_cons (de_var 2) da_nil)) (dg_name c 8) (dss_cons (ds_expr (de_append 3 (pv 3) (da_cons (de_mod (de_toint B (da_cons (de_var 7) da_nil)) de_int) da_nil)))
    (dss_one (ds_set c 7 (de_fdiv (de_var 7) de_int)))))) (dss_cons (ds_set c 4 (de_mod (de_toint B (da_cons (de_add (de_add (de_add (de_mul (de_var 4) de_int) (de_mul de_int (de_var 7))) (de_toint B (da_cons (de_cmp cr_lt (de_var 6) de_int) da_nil))) (de_var 5)) da_nil)) de_int))
    (dss_one (ds_for po c (di_r1 B (da_cons (de_var 2) da_nil)) (dg_name c 8) (dss_cons (ds_set c 4 (de_mod (de_toint B (da_cons (de_add (de_add (de_mul (de_var 4) de_int) (de_var 8)) de_int) da_nil)) de_int))
    (dss_one (ds_expr (de_append 3 (pv 3) (da_cons (de_mod (de_toint B (da_cons (de_fdiv (de_var 4) de_int) da_nil)) de_int) da_nil))))))))))))))
    (dss_cons (ds_expr (de_reverse 3 (pv 3)))
    (dss_one (ds_retO 3 (pv 3)))))))
theorem sc__law_plain_sheet : FnScope [("rows" : Str), ("columns" : Str), ("column" : Str), ("row" : Str)] [("rows" : Str), ("columns" : Str)] (defScope s__law_plain_sheet) := ⟨rfl, rfl, rfl, by decide +kernel, rfl, by decide +kernel, by decide +kernel⟩
theorem G__law_plain_sheet {f : Addr} {fd : FuncData} (B : Bi mg) (F : FnP K ("_law_plain_sheet" : Str) ("_law_plain_sheet" : Str) s__law_plain_sheet f fd) (hm : mg ("_law_plain_sheet" : Str) = some (.ref f)) : Fd P w K mg base ("_law_plain_sheet" : Str) 1 false false 2 F__law_plain_sheet := by
  exact fd_okD (k := 0) F hm sc__law_plain_sheet (fun _ _ _ _ _ _ us hl => match us, hl with | [_, _], _ => rfl) (by decide) fun cdv A outer s H E c po =>
    (dss_one (ds_ret (DF.sh (df_lc [(("row" : Str), 3)] c (di_r1 B (da_cons (de_var 0) da_nil)) (lg_name 3) (fun _ _ _ _ _ => (dg_name c.blk 3)) (fun _ _ _ _ _ => dts_nil) (fun _ _ _ _ _ => (DF.sh (df_lc [(("column" : Str), 2)] c.blk (di_r1 B (da_cons (de_var 1) da_nil)) (lg_name 2) (fun _ _ _ _ _ => (dg_name c.blk.blk 2)) (fun _ _ _ _ _ => dts_nil) (fun _ _ _ _ _ => (DF.sh (df_lst (da_cons (de_tup (da_cons (de_var 3) (da_cons (de_var 2) (da_cons de_str (da_cons de_bl da_nil))))) da_nil)))) (ok := blkOk_by (N := [("rows" : Str), ("columns" : Str), ("column" : Str), ("row" : Str)]) rfl)))) (ok := blkOk_by (N := [("rows" : Str), ("columns" : Str), ("column" : Str), ("row" : Str)]) (sc := defScope s__law_plain_sheet) (by decide +kernel))))))
theorem sc__law_one_fold : FnScope [("sheet" : Str), ("side" : Str), ("place" : Str), ("way" : Str), ("rows" : Str), ("columns" : Str), ("cells" : Str), ("row" : Str), ("column" : Str), ("moves" : Str), ("goal" : Str), ("heap" : Str), ("flip" : Str), ("turned" : Str), ("one" : Str), ("two" : Str), ("face" : Str), ("down" : Str), ("before" : Str), ("lines" : Str), ("across" : Str)] [("sheet" : Str), ("side" : Str), ("place" : Str), ("way" : Str)] (defScope s__law_one_fold) := ⟨rfl, rfl, rfl, by decide +kernel, rfl, by decide +kernel, by decide +kernel⟩
theorem G__law_one_fold {f : Addr} {fd : FuncData} (B : Bi mg) (F : FnP K ("_law_one_fold" : Str) ("_law_one_fold" : Str) s__law_one_fold f fd) (hm : mg ("_law_one_fold" : Str) = some (.ref f)) : Fd P w K mg base ("_law_one_fold" : Str) 1 false false 4 F__law_one_fold := by
  exact fd_okD (k := 0) F hm sc__law_one_fold (fun _ _ _ _ _ _ us hl => match us, hl with | [_, _, _, _], _ => rfl) (by decide) fun cdv A outer s H E c po =>
    (dss_cons (ds_set c 4 (de_len B (da_cons (de_var 0) da_nil)))
    (dss_cons (ds_set c 5 (de_len B (da_cons (de_ix (de_var 0) de_int) da_nil)))
    (dss_cons (ds_setF c 6 df_dnewT)
    (dss_cons (ds_for po c (di_r1 B (da_cons (de_var 4) da_nil)) (dg_name c 7) (dss_one (ds_for po c (di_r1 B (da_cons (de_var 5) da_nil)) (dg_name c 8) (dss_cons (ds_set c 9 de_bl)
    (dss_cons (ds_set c 10 (de_tup (da_cons (de_var 7) (da_cons (de_var 8) da_nil))))
    (dss_cons (ds_if (dt_w (dw_and (dt_cmp (cr_eq c) (de_var 1) de_str) (dw_and1 (dt_cmp cr_ge (de_var 8) (de_var 2))))) (dss_one (ds_par c 9 10 (da_cons de_bl (da_cons (de_tup (da_cons (de_var 7) (da_cons (de_sub (de_sub (de_mul de_int (de_var 2)) de_int) (de_var 8)) da_nil))) da_nil)))) dss_nil)
    (dss_cons (ds_if (dt_w (dw_and (dt_cmp (cr_eq c) (de_var 1) de_str) (dw_and1 (dt_cmp cr_lt (de_var 8) (de_var 2))))) (dss_one (ds_par c 9 10 (da_cons de_bl (da_cons (de_tup (da_cons (de_var 7) (da_cons (de_sub (de_sub (de_mul de_int (de_var 2)) de_int) (de_var 8)) da_nil))) da_nil)))) dss_nil)
    (dss_cons (ds_if (dt_w (dw_and (dt_cmp (cr_eq c) (de_var 1) de_str) (dw_and1 (dt_cmp cr_ge (de_var 7) (de_var 2))))) (dss_one (ds_par c 9 10 (da_cons de_bl (da_cons (de_tup (da_cons (de_sub (de_sub (de_mul de_int (de_var 2)) de_int) (de_var 7)) (da_cons (de_var 8) da_nil))) da_nil)))) dss_nil)
    (dss_cons (ds_if (dt_w (dw_and (dt_cmp (cr_eq c) (de_var 1) de_str) (dw_and1 (dt_cmp cr_lt (de_var 7) (de_var 2))))) (dss_one (ds_par c 9 10 (da_cons de_bl (da_cons (de_tup (da_cons (de_sub (de_sub (de_mul de_int (de_var 2)) de_int) (de_var 7)) (da_cons (de_var 8) da_nil))) da_nil)))) dss_nil)
    (dss_cons (ds_set c 11 (de_ix (de_ix (de_var 0) (de_var 7)) (de_var 8)))
    (dss_cons (ds_if (dt_truv 9 (pv 9)) (dss_cons (ds_set c 12 (de_cmp cr_inT (de_var 1) (de_tup (da_cons de_str (da_cons de_str da_nil)))))
    (dss_cons (ds_setF c 13 (df_lst da_nil))
    (dss_cons (ds_for po c (di_seq (DF.sh (df_revL (de_var 11)))) (dg_tup c (dgs_cons (dg_name c 14) (dgs_cons (dg_name c 15) (dgs_cons (dg_name c 16) (dgs_cons (dg_name c 17) dgs_nil))))) (dss_one (ds_expr (de_append 13 (pv 13) (da_cons (de_tup (da_cons (de_var 14) (da_cons (de_var 15) (da_cons (de_if (dt_cmp (cr_eq c) (de_var 16) de_str) de_str de_str) (da_cons (de_cmp (cr_ne c) (de_var 17) (de_var 12)) da_nil))))) da_nil)))))
    (dss_one (ds_set c 11 (de_var 13)))))) dss_nil)
    (dss_cons (ds_set c 18 (de_dget2v 6 c (pv 6) (de_var 10) (DF.sh (df_lst da_nil))))
    (dss_one (ds_if (dt_cmp (cr_eq c) (de_len B (da_cons (de_var 18) da_nil)) de_int) (dss_one (ds_putD 6 c (pv 6) (de_var 10) (de_var 11))) (dss_one (ds_if (dt_cmp (cr_eq c) (de_var 9) (de_cmp (cr_eq c) (de_var 3) de_str)) (dss_one (ds_putD 6 c (pv 6) (de_var 10) (de_add (de_var 11) (de_var 18)))) (dss_one (ds_putD 6 c (pv 6) (de_var 10) (de_add (de_var 18) (de_var 11))))))))))))))))))))
    (dss_cons (ds_set c 19 (DF.sh (df_sortSet c B (DF.sh (df_lcD 6 [(("row" : Str), 7), (("column" : Str), 8)] c (pv 6) (lg_tup (lgs_cons 7 (lgs_cons 8 lgs_nil))) (fun _ _ _ _ _ => (dg_tup c.blk (dgs_cons (dg_name c.blk 7) (dgs_cons (dg_name c.blk 8) dgs_nil)))) (fun _ _ _ _ _ => dts_nil) (fun _ _ _ _ _ => (de_var 7)) (ok := blkOk_by (N := [("sheet" : Str), ("side" : Str), ("place" : Str), ("way" : Str), ("rows" : Str), ("columns" : Str), ("cells" : Str), ("row" : Str), ("column" : Str), ("moves" : Str), ("goal" : Str), ("heap" : Str), ("flip" : Str), ("turned" : Str), ("one" : Str), ("two" : Str), ("face" : Str), ("down" : Str), ("before" : Str), ("lines" : Str), ("across" : Str)]) (sc := defScope s__law_one_fold) (by decide +kernel)))))))
    (dss_cons (ds_set c 20 (DF.sh (df_sortSet c B (DF.sh (df_lcD 6 [(("row" : Str), 7), (("column" : Str), 8)] c (pv 6) (lg_tup (lgs_cons 7 (lgs_cons 8 lgs_nil))) (fun _ _ _ _ _ => (dg_tup c.blk (dgs_cons (dg_name c.blk 7) (dgs_cons (dg_name c.blk 8) dgs_nil)))) (fun _ _ _ _ _ => dts_nil) (fun _ _ _ _ _ => (de_var 8)) (ok := blkOk_by (N := [("sheet" : Str), ("side" : Str), ("place" : Str), ("way" : Str), ("rows" : Str), ("columns" : Str), ("cells" : Str), ("row" : Str), ("column" : Str), ("moves" : Str), ("goal" : Str), ("heap" : Str), ("flip" : Str), ("turned" : Str), ("one" : Str), ("two" : Str), ("face" : Str), ("down" : Str), ("before" : Str), ("lines" : Str), ("across" : Str)]) (sc := defScope s__law_one_fold) (by decide +kernel)))))))
    (dss_one (ds_ret (DF.sh (df_lc [(("row" : Str), 7)] c (di_seq (de_var 19)) (lg_name 7) (fun _ _ _ _ _ => (dg_name c.blk 7)) (fun _ _ _ _ _ => dts_nil) (fun _ _ _ _ _ => (DF.sh (df_lc [(("column" : Str), 8)] c.blk (di_seq (de_var 20)) (lg_name 8) (fun _ _ _ _ _ => (dg_name c.blk.blk 8)) (fun _ _ _ _ _ => dts_nil) (fun _ _ _ _ _ => (de_dgv 6 c.blk.blk (pv 6) (de_tup (da_cons (de_var 7) (da_cons (de_var 8) da_nil))))) (ok := blkOk_by (N := [("sheet" : Str), ("side" : Str), ("place" : Str), ("way" : Str), ("rows" : Str), ("columns" : Str), ("cells" : Str), ("row" : Str), ("column" : Str), ("moves" : Str), ("goal" : Str), ("heap" : Str), ("flip" : Str), ("turned" : Str), ("one" : Str), ("two" : Str), ("face" : Str), ("down" : Str), ("before" : Str), ("lines" : Str), ("across" : Str)]) rfl)))) (ok := blkOk_by (N := [("sheet" : Str), ("side" : Str), ("place" : Str), ("way" : Str), ("rows" : Str), ("columns" : Str), ("cells" : Str), ("row" : Str), ("column" : Str), ("moves" : Str), ("goal" : Str), ("heap" : Str), ("flip" : Str), ("turned" : Str), ("one" : Str), ("two" : Str), ("face" : Str), ("down" : Str), ("before" : Str), ("lines" : Str), ("across" : Str)]) (sc := defScope s__law_one_fold) (by decide +kernel))))))))))))
theorem sc__law_take : FnScope [("deck" : Str), ("many" : Str)] [("deck" : Str), ("many" : Str)] (defScope s__law_take) := ⟨rfl, rfl, rfl, by decide +kernel, rfl, by decide +kernel, by decide +kernel⟩
theorem G__law_take {f : Addr} {fd : FuncData} (B : Bi mg) (F : FnP K ("_law_take" : Str) ("_law_take" : Str) s__law_take f fd) (hm : mg ("_law_take" : Str) = some (.ref f)) : Fd P w K mg base ("_law_take" : Str) 1 true false 2 F__law_take := by
  exact fd_okD (k := 0) F hm sc__law_take (fun _ _ _ _ _ _ us hl => match us, hl with | [_, _], _ => rfl) (by decide) fun cdv A outer s H E c po =>
    (dss_cons (ds_if (dt_cmp (cr_eq c) (de_lenv B 0 (pv 0)) de_int) (dss_one (ds_ret de_int)) dss_nil)
    (dss_one (ds_ret (de_mod (de_toint B (da_cons (de_pop 0 (pv 0)) da_nil)) (de_var 1)))))
theorem sc__law_folds : FnScope [("deck" : Str), ("rows" : Str), ("columns" : Str), ("sheet" : Str), ("folds" : Str), ("choices" : Str), ("side" : Str), ("most" : Str), ("place" : Str), ("way" : Str)] [("deck" : Str), ("rows" : Str), ("columns" : Str)] (defScope s__law_folds) := ⟨rfl, rfl, rfl, by decide +kernel, rfl, by decide +kernel, by decide +kernel⟩
theorem G__law_folds {f : Addr} {fd : FuncData} (B : Bi mg) (G__law_plain_sheet : Fd P w K mg base ("_law_plain_sheet" : Str) 1 false false 2 F__law_plain_sheet) (G__law_one_fold : Fd P w K mg base ("_law_one_fold" : Str) 1 false false 4 F__law_one_fold) (G__law_take : Fd P w K mg base ("_law_take" : Str) 1 true false 2 F__law_take) (F : FnP K ("_law_folds" : Str) ("_law_folds" : Str) s__law_folds f fd) (hm : mg ("_law_folds" : Str) = some (.ref f)) : Fd P w K mg base ("_law_folds" : Str) 2 true false 3 F__law_folds := by
  exact fd_okD (k := 1) F hm sc__law_folds (fun _ _ _ _ _ _ us hl => match us, hl with | [_, _, _], _ => rfl) (by decide) fun cdv A outer s H E c po =>
    (dss_cons (ds_set c 3 (de_call G__law_plain_sheet c (da_cons (de_var 1) (da_cons (de_var 2) da_nil))))
    (dss_cons (ds_setF c 4 (df_lst da_nil))
    (dss_cons (ds_while (muSheet 3) po (dt_w (dw_or (dt_cmp cr_gt (de_len B (da_cons (de_var 3) da_nil)) de_int) (dw_or1 (dt_cmp cr_gt (de_len B (da_cons (de_ix (de_var 3) de_int) da_nil)) de_int)))) (dss_cons (ds_set c 5 (DF.sh (df_lst da_nil)))
    (dss_cons (ds_if (dt_cmp cr_gt (de_len B (da_cons (de_ix (de_var 3) de_int) da_nil)) de_int) (dss_one (ds_set c 5 (de_add (de_var 5) (DF.sh (df_lst (da_cons de_str (da_cons de_str da_nil))))))) dss_nil)
    (dss_cons (ds_if (dt_cmp cr_gt (de_len B (da_cons (de_var 3) da_nil)) de_int) (dss_one (ds_set c 5 (de_add (de_var 5) (DF.sh (df_lst (da_cons de_str (da_cons de_str da_nil))))))) dss_nil)
    (dss_cons (ds_set c 6 (de_ix (de_var 5) (de_callIo G__law_take c 0 (pv 0) (da_cons (de_len B (da_cons (de_var 5) da_nil)) da_nil))))
    (dss_cons (ds_set c 7 (de_if (dt_cmp cr_inT (de_var 6) (de_tup (da_cons de_str (da_cons de_str da_nil)))) (de_len B (da_cons (de_ix (de_var 3) de_int) da_nil)) (de_len B (da_cons (de_var 3) da_nil))))
    (dss_cons (ds_set c 8 (de_add de_int (de_callIo G__law_take c 0 (pv 0) (da_cons (de_sub (de_var 7) de_int) da_nil))))
    (dss_cons (ds_if (dt_w (dw_and (dt_cmp (cr_eq c) (de_callIo G__law_take c 0 (pv 0) (da_cons de_int da_nil)) de_int) (dw_and1 (dt_cmp (cr_eq c) (de_mod (de_toint B (da_cons (de_var 7) da_nil)) de_int) de_int)))) (dss_one (ds_set c 8 (de_fdivW (de_var 7) de_int))) dss_nil)
    (dss_cons (ds_set c 9 (de_ix (DF.sh (df_lst (da_cons de_str (da_cons de_str da_nil)))) (de_callIo G__law_take c 0 (pv 0) (da_cons de_int da_nil))))
    (dss_cons (ds_expr (de_append 4 (pv 4) (da_cons (de_tup (da_cons (de_var 6) (da_cons (de_var 8) (da_cons (de_var 9) da_nil)))) da_nil)))
    (dss_one (ds_set c 3 (de_call G__law_one_fold c (da_cons (de_var 3) (da_cons (de_var 6) (da_cons (de_var 8) (da_cons (de_var 9) da_nil)))))))))))))))))
    (dss_one (ds_ret (de_tup (da_cons (de_var 4) (da_cons (de_var 3) da_nil))))))))
theorem sc_check_size : FnScope [("rows" : Str), ("columns" : Str)] [("rows" : Str), ("columns" : Str)] (defScope s_check_size) := ⟨rfl, rfl, rfl, by decide +kernel, rfl, by decide +kernel, by decide +kernel⟩
theorem G_check_size {f : Addr} {fd : FuncData} (B : Bi mg) (h_MOST_LEAVES : ∃ t, mg ("MOST_LEAVES" : Str) = some (.int (64) t)) (E_InvalidSheet : Ec P w K mg base ("InvalidSheet" : Str) "what") (E_TooMany : Ec P w K mg base ("TooMany" : Str) "what") (F : FnP K ("check_size" : Str) ("check_size" : Str) s_check_size f fd) (hm : mg ("check_size" : Str) = some (.ref f)) : Fd P w K mg base ("check_size" : Str) 3 false false 2 F_check_size := by
  obtain ⟨t_MOST_LEAVES, h_MOST_LEAVES⟩ := h_MOST_LEAVES
  exact fd_okD (k := 2) F hm sc_check_size (fun _ _ _ _ _ _ us hl => match us, hl with | [_, _], _ => rfl) (by decide) fun cdv A outer s H E c po =>
    (dss_cons (ds_if (dt_w (dw_or (dt_cmp cr_lt (de_var 0) de_int) (dw_or1 (dt_cmp cr_lt (de_var 1) de_int)))) (dss_one (ds_raise E_InvalidSheet c de_str)) dss_nil)
    (dss_one (ds_if (dt_cmp cr_gt (de_mul (de_var 0) (de_var 1)) (de_glob (v := .int (64)) h_MOST_LEAVES ⟨t_MOST_LEAVES, rfl⟩ fun _ => .int _)) (dss_one (ds_raise E_TooMany c de_str)) dss_nil)))
theorem sc_is_fold : FnScope [("fold" : Str)] [("fold" : Str)] (defScope s_is_fold) := ⟨rfl, rfl, rfl, by decide +kernel, rfl, by decide +kernel, by decide +kernel⟩
theorem G_is_fold {f : Addr} {fd : FuncData} (B : Bi mg) (h_SIDES : mg ("SIDES" : Str) = some (.ref (He.ga K ("SIDES" : Str))) ∧ ∀ S, Rep K S c_SIDES (.ref (He.ga K ("SIDES" : Str)))) (h_WAYS : mg ("WAYS" : Str) = some (.ref (He.ga K ("WAYS" : Str))) ∧ ∀ S, Rep K S c_WAYS (.ref (He.ga K ("WAYS" : Str)))) (F : FnP K ("is_fold" : Str) ("is_fold" : Str) s_is_fold f fd) (hm : mg ("is_fold" : Str) = some (.ref f)) : Fd P w K mg base ("is_fold" : Str) 1 false false 1 F_is_fold := by
  exact fd_okD (k := 0) F hm sc_is_fold (fun _ _ _ _ _ _ us hl => match us, hl with | [_], _ => rfl) (by decide) fun cdv A outer s H E c po =>
    (dss_cons (ds_if (dt_w (dw_or (dt_not (dt_tru (de_isi "tuple" B (de_var 0) B.tuple (by decide +kernel)))) (dw_or (dt_cmp (cr_ne c) (de_len B (da_cons (de_var 0) da_nil)) de_int) (dw_or (dt_cmp cr_notInT (de_ix (de_var 0) de_int) (de_glob (v := .ref _) h_SIDES.1 rfl h_SIDES.2)) (dw_or1 (dt_cmp cr_notInT (de_ix (de_var 0) de_int) (de_glob (v := .ref _) h_WAYS.1 rfl h_WAYS.2))))))) (dss_one (ds_ret de_bl)) dss_nil)
    (dss_one (ds_ret (de_and (de_isi "int" B (de_ix (de_var 0) de_int) B.int (by decide +kernel)) (de_oneA (de_not (de_isi "bool" B (de_ix (de_var 0) de_int) B.bool (by decide +kernel))))))))
theorem sc_exchanged : FnScope [("sheet" : Str), ("row" : Str), ("at" : Str)] [("sheet" : Str)] (defScope s_exchanged) := ⟨rfl, rfl, rfl, by decide +kernel, rfl, by decide +kernel, by decide +kernel⟩
theorem G_exchanged {f : Addr} {fd : FuncData} (B : Bi mg) (F : FnP K ("exchanged" : Str) ("exchanged" : Str) s_exchanged f fd) (hm : mg ("exchanged" : Str) = some (.ref f)) : Fd P w K mg base ("exchanged" : Str) 1 false false 1 F_exchanged := by
  exact fd_okD (k := 0) F hm sc_exchanged (fun _ _ _ _ _ _ us hl => match us, hl with | [_], _ => rfl) (by decide) fun cdv A outer s H E c po =>
    (dss_one (ds_ret (DF.sh (df_lc [(("at" : Str), 2)] c (di_r1 B (da_cons (de_len B (da_cons (de_ix (de_var 0) de_int) da_nil)) da_nil)) (lg_name 2) (fun _ _ _ _ _ => (dg_name c.blk 2)) (fun _ _ _ _ _ => dts_nil) (fun _ _ _ _ _ => (DF.sh (df_lc [(("row" : Str), 1)] c.blk (di_seq (de_var 0)) (lg_name 1) (fun _ _ _ _ _ => (dg_name c.blk.blk 1)) (fun _ _ _ _ _ => dts_nil) (fun _ _ _ _ _ => (de_ix (de_var 1) (de_var 2))) (ok := blkOk_by (N := [("sheet" : Str), ("row" : Str), ("at" : Str)]) rfl)))) (ok := blkOk_by (N := [("sheet" : Str), ("row" : Str), ("at" : Str)]) (sc := defScope s_exchanged) (by decide +kernel))))))
theorem sc_mirrored : FnScope [("sheet" : Str), ("row" : Str)] [("sheet" : Str)] (defScope s_mirrored) := ⟨rfl, rfl, rfl, by decide +kernel, rfl, by decide +kernel, by decide +kernel⟩
theorem G_mirrored {f : Addr} {fd : FuncData} (B : Bi mg) (F : FnP K ("mirrored" : Str) ("mirrored" : Str) s_mirrored f fd) (hm : mg ("mirrored" : Str) = some (.ref f)) : Fd P w K mg base ("mirrored" : Str) 1 false false 1 F_mirrored := by
  exact fd_okD (k := 0) F hm sc_mirrored (fun _ _ _ _ _ _ us hl => match us, hl with | [_], _ => rfl) (by decide) fun cdv A outer s H E c po =>
    (dss_one (ds_ret (DF.sh (df_lc [(("row" : Str), 1)] c (di_seq (de_var 0)) (lg_name 1) (fun _ _ _ _ _ => (dg_name c.blk 1)) (fun _ _ _ _ _ => dts_nil) (fun _ _ _ _ _ => (DF.sh (df_revL (de_var 1)))) (ok := blkOk_by (N := [("sheet" : Str), ("row" : Str)]) (sc := defScope s_mirrored) (by decide +kernel))))))
theorem sc_over_side : FnScope [("leaf" : Str), ("row" : Str), ("column" : Str), ("face" : Str), ("turned" : Str)] [("leaf" : Str)] (defScope s_over_side) := ⟨rfl, rfl, rfl, by decide +kernel, rfl, by decide +kernel, by decide +kernel⟩
theorem G_over_side {f : Addr} {fd : FuncData} (B : Bi mg) (F : FnP K ("over_side" : Str) ("over_side" : Str) s_over_side f fd) (hm : mg ("over_side" : Str) = some (.ref f)) : Fd P w K mg base ("over_side" : Str) 1 false false 1 F_over_side := by
  exact fd_okD (k := 0) F hm sc_over_side (fun _ _ _ _ _ _ us hl => match us, hl with | [_], _ => rfl) (by decide) fun cdv A outer s H E c po =>
    (dss_cons (ds_asg (de_var 0) (dg_tup c (dgs_cons (dg_name c 1) (dgs_cons (dg_name c 2) (dgs_cons (dg_name c 3) (dgs_cons (dg_name c 4) dgs_nil))))))
    (dss_one (ds_ret (de_tup (da_cons (de_var 1) (da_cons (de_var 2) (da_cons (de_if (dt_cmp (cr_eq c) (de_var 3) de_str) de_str de_str) (da_cons (de_var 4) da_nil))))))))
theorem sc_over_top : FnScope [("leaf" : Str), ("row" : Str), ("column" : Str), ("face" : Str), ("turned" : Str)] [("leaf" : Str)] (defScope s_over_top) := ⟨rfl, rfl, rfl, by decide +kernel, rfl, by decide +kernel, by decide +kernel⟩
theorem G_over_top {f : Addr} {fd : FuncData} (B : Bi mg) (F : FnP K ("over_top" : Str) ("over_top" : Str) s_over_top f fd) (hm : mg ("over_top" : Str) = some (.ref f)) : Fd P w K mg base ("over_top" : Str) 1 false false 1 F_over_top := by
  exact fd_okD (k := 0) F hm sc_over_top (fun _ _ _ _ _ _ us hl => match us, hl with | [_], _ => rfl) (by decide) fun cdv A outer s H E c po =>
    (dss_cons (ds_asg (de_var 0) (dg_tup c (dgs_cons (dg_name c 1) (dgs_cons (dg_name c 2) (dgs_cons (dg_name c 3) (dgs_cons (dg_name c 4) dgs_nil))))))
    (dss_one (ds_ret (de_tup (da_cons (de_var 1) (da_cons (de_var 2) (da_cons (de_if (dt_cmp (cr_eq c) (de_var 3) de_str) de_str de_str) (da_cons (de_not (de_var 4)) da_nil))))))))
theorem sc_folded_right : FnScope [("sheet" : Str), ("place" : Str), ("way" : Str), ("turn" : Str), ("found" : Str), ("row" : Str), ("rest" : Str), ("part" : Str), ("width" : Str), ("line" : Str), ("step" : Str), ("low" : Str), ("high" : Str), ("leaf" : Str), ("heap" : Str)] [("sheet" : Str), ("place" : Str), ("way" : Str), ("turn" : Str)] (defScope s_folded_right) := ⟨rfl, rfl, rfl, by decide +kernel, rfl, by decide +kernel, by decide +kernel⟩
theorem G_folded_right {f : Addr} {fd : FuncData} (B : Bi mg) (G_over_side : Fd P w K mg base ("over_side" : Str) 1 false false 1 F_over_side) (G_over_top : Fd P w K mg base ("over_top" : Str) 1 false false 1 F_over_top) (m_over_side : mg ("over_side" : Str) = some (.ref (He.ga K ("over_side" : Str)))) (m_over_top : mg ("over_top" : Str) = some (.ref (He.ga K ("over_top" : Str)))) (F : FnP K ("folded_right" : Str) ("folded_right" : Str) s_folded_right f fd) (hm : mg ("folded_right" : Str) = some (.ref f)) : Fd P w K mg base ("folded_right" : Str) 2 false false 4 F_folded_right := by
  exact fd_okD (k := 1) F hm sc_folded_right (fun _ _ _ _ _ _ us hl => match us, hl with | [_, _, _, _], _ => rfl) (by decide) fun cdv A outer s H E c po =>
    (dss_cons (ds_setF c 4 (df_lst da_nil))
    (dss_cons (ds_for po c (di_seq (de_var 0)) (dg_name c 5) (dss_cons (ds_set c 6 (de_sl (de_var 5) do_none (do_some (de_var 1))))
    (dss_cons (ds_setLc 7 [(("heap" : Str), 14)] c (di_seq (de_sl (de_var 5) (do_some (de_var 1)) do_none)) (lg_name 14) (fun _ _ _ _ _ => (dg_name c.blk 14)) (fun _ _ _ _ _ => dts_nil) (fun _ _ _ _ _ => (DF.sh (df_lc [(("leaf" : Str), 13)] c.blk (di_seq (DF.sh (df_revL (de_var 14)))) (lg_name 13) (fun _ _ _ _ _ => (dg_name c.blk.blk 13)) (fun _ _ _ _ _ => dts_nil) (fun _ _ _ _ _ => (de_callV 3 G_over_side m_over_side G_over_top m_over_top c.blk.blk (da_cons (de_var 13) da_nil))) (ok := blkOk_by (N := [("sheet" : Str), ("place" : Str), ("way" : Str), ("turn" : Str), ("found" : Str), ("row" : Str), ("rest" : Str), ("part" : Str), ("width" : Str), ("line" : Str), ("step" : Str), ("low" : Str), ("high" : Str), ("leaf" : Str), ("heap" : Str)]) rfl)))) (ok := blkOk_by (N := [("sheet" : Str), ("place" : Str), ("way" : Str), ("turn" : Str), ("found" : Str), ("row" : Str), ("rest" : Str), ("part" : Str), ("width" : Str), ("line" : Str), ("step" : Str), ("low" : Str), ("high" : Str), ("leaf" : Str), ("heap" : Str)]) (sc := defScope s_folded_right) (by decide +kernel)))
    (dss_cons (ds_set c 8 (de_max2 c B (da_cons (de_var 1) (da_cons (de_len B (da_cons (de_var 7) da_nil)) da_nil))))
    (dss_cons (ds_setF c 9 (df_lst da_nil))
    (dss_cons (ds_for po c (di_r1 B (da_cons (de_var 8) da_nil)) (dg_name c 10) (dss_cons (ds_set c 11 (de_if (dt_cmp cr_lt (de_var 10) (de_var 1)) (de_ix (de_var 6) (de_sub (de_sub (de_var 1) de_int) (de_var 10))) (DF.sh (df_lst da_nil))))
    (dss_cons (ds_set c 12 (de_if (dt_cmp cr_lt (de_var 10) (de_len B (da_cons (de_var 7) da_nil))) (de_ix (de_var 7) (de_var 10)) (DF.sh (df_lst da_nil))))
    (dss_one (ds_expr (de_append 9 (pv 9) (da_cons (de_if (dt_cmp (cr_eq c) (de_var 2) de_str) (de_add (de_var 12) (de_var 11)) (de_add (de_var 11) (de_var 12))) da_nil)))))))
    (dss_one (ds_expr (de_append 4 (pv 4) (da_cons (DF.sh (df_revL (de_var 9))) da_nil))))))))))
    (dss_one (ds_ret (de_var 4)))))
theorem sc_one_fold : FnScope [("sheet" : Str), ("fold" : Str), ("side" : Str), ("place" : Str), ("way" : Str), ("across" : Str)] [("sheet" : Str), ("fold" : Str)] (defScope s_one_fold) := ⟨rfl, rfl, rfl, by decide +kernel, rfl, by decide +kernel, by decide +kernel⟩
theorem G_one_fold {f : Addr} {fd : FuncData} (B : Bi mg) (G_exchanged : Fd P w K mg base ("exchanged" : Str) 1 false false 1 F_exchanged) (G_mirrored : Fd P w K mg base ("mirrored" : Str) 1 false false 1 F_mirrored) (G_folded_right : Fd P w K mg base ("folded_right" : Str) 2 false false 4 F_folded_right) (m_over_side : mg ("over_side" : Str) = some (.ref (He.ga K ("over_side" : Str)))) (m_over_top : mg ("over_top" : Str) = some (.ref (He.ga K ("over_top" : Str)))) (F : FnP K ("one_fold" : Str) ("one_fold" : Str) s_one_fold f fd) (hm : mg ("one_fold" : Str) = some (.ref f)) : Fd P w K mg base ("one_fold" : Str) 3 false false 2 F_one_fold := by
  exact fd_okD (k := 2) F hm sc_one_fold (fun _ _ _ _ _ _ us hl => match us, hl with | [_, _], _ => rfl) (by decide) fun cdv A outer s H E c po =>
    (dss_cons (ds_asg (de_var 1) (dg_tup c (dgs_cons (dg_name c 2) (dgs_cons (dg_name c 3) (dgs_cons (dg_name c 4) dgs_nil)))))
    (dss_cons (ds_if (dt_cmp cr_inT (de_var 2) (de_tup (da_cons de_str (da_cons de_str da_nil)))) (dss_cons (ds_if (dt_not (dt_chain cr_lt cr_lt de_int (de_var 3) (de_len B (da_cons (de_ix (de_var 0) de_int) da_nil)))) (dss_one (ds_ret de_non)) dss_nil)
    (dss_cons (ds_if (dt_cmp (cr_eq c) (de_var 2) de_str) (dss_one (ds_ret (de_call G_folded_right c (da_cons (de_var 0) (da_cons (de_var 3) (da_cons (de_var 4) (da_cons (de_fn m_over_side) da_nil))))))) dss_nil)
    (dss_one (ds_ret (de_call G_mirrored c (da_cons (de_call G_folded_right c (da_cons (de_call G_mirrored c (da_cons (de_var 0) da_nil)) (da_cons (de_sub (de_len B (da_cons (de_ix (de_var 0) de_int) da_nil)) (de_var 3)) (da_cons (de_var 4) (da_cons (de_fn m_over_side) da_nil))))) da_nil)))))) dss_nil)
    (dss_cons (ds_if (dt_not (dt_chain cr_lt cr_lt de_int (de_var 3) (de_len B (da_cons (de_var 0) da_nil)))) (dss_one (ds_ret de_non)) dss_nil)
    (dss_cons (ds_set c 5 (de_call G_exchanged c (da_cons (de_var 0) da_nil)))
    (dss_cons (ds_if (dt_cmp (cr_eq c) (de_var 2) de_str) (dss_one (ds_ret (de_call G_exchanged c (da_cons (de_call G_folded_right c (da_cons (de_var 5) (da_cons (de_var 3) (da_cons (de_var 4) (da_cons (de_fn m_over_top) da_nil))))) da_nil)))) dss_nil)
    (dss_one (ds_ret (de_call G_exchanged c (da_cons (de_call G_mirrored c (da_cons (de_call G_folded_right c (da_cons (de_call G_mirrored c (da_cons (de_var 5) da_nil)) (da_cons (de_sub (de_len B (da_cons (de_var 0) da_nil)) (de_var 3)) (da_cons (de_var 4) (da_cons (de_fn m_over_top) da_nil))))) da_nil)) da_nil)))))))))
theorem sc_all_folds : FnScope [("sheet" : Str), ("folds" : Str), ("here" : Str), ("fold" : Str)] [("sheet" : Str), ("folds" : Str)] (defScope s_all_folds) := ⟨rfl, rfl, rfl, by decide +kernel, rfl, by decide +kernel, by decide +kernel⟩
theorem G_all_folds {f : Addr} {fd : FuncData} (B : Bi mg) (G_is_fold : Fd P w K mg base ("is_fold" : Str) 1 false false 1 F_is_fold) (G_one_fold : Fd P w K mg base ("one_fold" : Str) 3 false false 2 F_one_fold) (F : FnP K ("all_folds" : Str) ("all_folds" : Str) s_all_folds f fd) (hm : mg ("all_folds" : Str) = some (.ref f)) : Fd P w K mg base ("all_folds" : Str) 4 false false 2 F_all_folds := by
  exact fd_okD (k := 3) F hm sc_all_folds (fun _ _ _ _ _ _ us hl => match us, hl with | [_, _], _ => rfl) (by decide) fun cdv A outer s H E c po =>
    (dss_cons (ds_set c 2 (de_var 0))
    (dss_cons (ds_for po c (di_seq (de_var 1)) (dg_name c 3) (dss_cons (ds_set c 2 (de_if (dt_tru (de_call G_is_fold c (da_cons (de_var 3) da_nil))) (de_call G_one_fold c (da_cons (de_var 2) (da_cons (de_var 3) da_nil))) de_non))
    (dss_one (ds_if (dt_cmp cr_is (de_var 2) de_non) (dss_one (ds_ret de_non)) dss_nil))))
    (dss_one (ds_ret (de_var 2)))))
theorem sc_plain : FnScope [("rows" : Str), ("columns" : Str), ("column" : Str), ("row" : Str)] [("rows" : Str), ("columns" : Str)] (defScope s_plain) := ⟨rfl, rfl, rfl, by decide +kernel, rfl, by decide +kernel, by decide +kernel⟩
theorem G_plain {f : Addr} {fd : FuncData} (B : Bi mg) (F : FnP K ("plain" : Str) ("plain" : Str) s_plain f fd) (hm : mg ("plain" : Str) = some (.ref f)) : Fd P w K mg base ("plain" : Str) 1 false false 2 F_plain := by
  exact fd_okD (k := 0) F hm sc_plain (fun _ _ _ _ _ _ us hl => match us, hl with | [_, _], _ => rfl) (by decide) fun cdv A outer s H E c po =>
    (dss_one (ds_ret (DF.sh (df_lc [(("row" : Str), 3)] c (di_r1 B (da_cons (de_var 0) da_nil)) (lg_name 3) (fun _ _ _ _ _ => (dg_name c.blk 3)) (fun _ _ _ _ _ => dts_nil) (fun _ _ _ _ _ => (DF.sh (df_lc [(("column" : Str), 2)] c.blk (di_r1 B (da_cons (de_var 1) da_nil)) (lg_name 2) (fun _ _ _ _ _ => (dg_name c.blk.blk 2)) (fun _ _ _ _ _ => dts_nil) (fun _ _ _ _ _ => (DF.sh (df_lst (da_cons (de_tup (da_cons (de_var 3) (da_cons (de_var 2) (da_cons de_str (da_cons de_bl da_nil))))) da_nil)))) (ok := blkOk_by (N := [("rows" : Str), ("columns" : Str), ("column" : Str), ("row" : Str)]) rfl)))) (ok := blkOk_by (N := [("rows" : Str), ("columns" : Str), ("column" : Str), ("row" : Str)]) (sc := defScope s_plain) (by decide +kernel))))))
theorem sc_folded : FnScope [("rows" : Str), ("columns" : Str), ("folds" : Str), ("found" : Str)] [("rows" : Str), ("columns" : Str), ("folds" : Str)] (defScope s_folded) := ⟨rfl, rfl, rfl, by decide +kernel, rfl, by decide +kernel, by decide +kernel⟩
theorem G_folded {f : Addr} {fd : FuncData} (B : Bi mg) (E_InvalidSheet : Ec P w K mg base ("InvalidSheet" : Str) "what") (G_check_size : Fd P w K mg base ("check_size" : Str) 3 false false 2 F_check_size) (G_all_folds : Fd P w K mg base ("all_folds" : Str) 4 false false 2 F_all_folds) (G_plain : Fd P w K mg base ("plain" : Str) 1 false false 2 F_plain) (F : FnP K ("folded" : Str) ("folded" : Str) s_folded f fd) (hm : mg ("folded" : Str) = some (.ref f)) : Fd P w K mg base ("folded" : Str) 5 false false 3 F_folded := by
  exact fd_okD (k := 4) F hm sc_folded (fun _ _ _ _ _ _ us hl => match us, hl with | [_, _, _], _ => rfl) (by decide) fun cdv A outer s H E c po =>
    (dss_cons (ds_expr (de_call G_check_size c (da_cons (de_var 0) (da_cons (de_var 1) da_nil))))
    (dss_cons (ds_set c 3 (de_call G_all_folds c (da_cons (de_call G_plain c (da_cons (de_var 0) (da_cons (de_var 1) da_nil))) (da_cons (de_var 2) da_nil))))
    (dss_cons (ds_if (dt_cmp cr_is (de_var 3) de_non) (dss_one (ds_raise E_InvalidSheet c de_str)) dss_nil)
    (dss_one (ds_ret (de_var 3))))))
theorem sc_heap_of : FnScope [("rows" : Str), ("columns" : Str), ("folds" : Str), ("found" : Str)] [("rows" : Str), ("columns" : Str), ("folds" : Str)] (defScope s_heap_of) := ⟨rfl, rfl, rfl, by decide +kernel, rfl, by decide +kernel, by decide +kernel⟩
theorem G_heap_of {f : Addr} {fd : FuncData} (B : Bi mg) (E_InvalidSheet : Ec P w K mg base ("InvalidSheet" : Str) "what") (G_folded : Fd P w K mg base ("folded" : Str) 5 false false 3 F_folded) (F : FnP K ("heap_of" : Str) ("heap_of" : Str) s_heap_of f fd) (hm : mg ("heap_of" : Str) = some (.ref f)) : Fd P w K mg base ("heap_of" : Str) 6 false false 3 F_heap_of := by
  exact fd_okD (k := 5) F hm sc_heap_of (fun _ _ _ _ _ _ us hl => match us, hl with | [_, _, _], _ => rfl) (by decide) fun cdv A outer s H E c po =>
    (dss_cons (ds_set c 3 (de_call G_folded c (da_cons (de_var 0) (da_cons (de_var 1) (da_cons (de_var 2) da_nil)))))
    (dss_cons (ds_if (dt_w (dw_or (dt_cmp (cr_ne c) (de_len B (da_cons (de_var 3) da_nil)) de_int) (dw_or1 (dt_cmp (cr_ne c) (de_len B (da_cons (de_ix (de_var 3) de_int) da_nil)) de_int)))) (dss_one (ds_raise E_InvalidSheet c de_str)) dss_nil)
    (dss_one (ds_ret (de_ix (de_ix (de_var 3) de_int) de_int)))))
theorem sc__law_refusal : FnScope [("ask" : Str), ("rows" : Str), ("columns" : Str), ("folds" : Str), ("error" : Str)] [("ask" : Str), ("rows" : Str), ("columns" : Str), ("folds" : Str)] (defScope s__law_refusal) := ⟨rfl, rfl, rfl, by decide +kernel, rfl, by decide +kernel, by decide +kernel⟩
theorem G__law_refusal {f : Addr} {fd : FuncData} (B : Bi mg) (E_InvalidSheet : Ec P w K mg base ("InvalidSheet" : Str) "what") (E_TooMany : Ec P w K mg base ("TooMany" : Str) "what") (exm : exmB K errs = true) (hms : ∀ y ∈ errs, mg y = some (.ref (He.ga K y))) (G_folded : Fd P w K mg base ("folded" : Str) 5 false false 3 F_folded) (G_heap_of : Fd P w K mg base ("heap_of" : Str) 6 false false 3 F_heap_of) (F : FnP K ("_law_refusal" : Str) ("_law_refusal" : Str) s__law_refusal f fd) (hm : mg ("_law_refusal" : Str) = some (.ref f)) : Fd P w K mg base ("_law_refusal" : Str) 7 false false 4 F__law_refusal := by
  exact fd_okD (k := 6) F hm sc__law_refusal (fun _ _ _ _ _ _ us hl => match us, hl with | [_, _, _, _], _ => rfl) (by decide) fun cdv A outer s H E c po =>
    (dss_cons (ds_try (n := ("error" : Str)) errs [("InvalidSheet" : Str), ("TooMany" : Str)] 4 exm hms c (fun _ _ _ c po => (dss_one (ds_if (dt_cmp (cr_eq c) (de_var 0) de_int) (dss_one (ds_expr (de_call G_folded c (da_cons (de_var 1) (da_cons (de_var 2) (da_cons (de_var 3) da_nil)))))) (dss_one (ds_expr (de_call G_heap_of c (da_cons (de_var 1) (da_cons (de_var 2) (da_cons (de_var 3) da_nil))))))))) (clause E_InvalidSheet (clause E_TooMany .nil)))
    (dss_one (ds_ret de_non)))
theorem sc__law_plain : FnScope [("value" : Str), ("item" : Str)] [("value" : Str)] (defScope s__law_plain) := ⟨rfl, rfl, rfl, by decide +kernel, rfl, by decide +kernel, by decide +kernel⟩
theorem G__law_plain {f : Addr} {fd : FuncData} (B : Bi mg) (F : FnP K ("_law_plain" : Str) ("_law_plain" : Str) s__law_plain f fd) (hm : mg ("_law_plain" : Str) = some (.ref f)) : ∀ n : Nat, Fd P w K mg base ("_law_plain" : Str) (n + 1) false false 1 (F__law_plain_ n)
  | 0 => fd_okD (k := 0) F hm sc__law_plain (fun _ _ _ _ _ _ us hl => match us, hl with | [_], _ => rfl) (by decide) fun cdv A outer s H E c po => dss_bad
  | n + 1 => by
    have G__law_plain := G__law_plain B F hm n
    exact fd_okD (k := n + 1) F hm sc__law_plain (fun _ _ _ _ _ _ us hl => match us, hl with | [_], _ => rfl) (by decide) fun cdv A outer s H E c po =>
    (dss_cons (ds_if (dt_tru (de_isi2 "tuple" "list" B (de_var 0) B.tuple (by decide +kernel) B.list (by decide +kernel))) (dss_one (ds_ret (de_add (DF.sh (df_lst (da_cons (de_isi "list" B (de_var 0) B.list (by decide +kernel)) da_nil))) (DF.sh (df_lc [(("item" : Str), 1)] c (di_seq (de_var 0)) (lg_name 1) (fun _ _ _ _ _ => (dg_name c.blk 1)) (fun _ _ _ _ _ => dts_nil) (fun _ _ _ _ _ => (de_call G__law_plain c.blk (da_cons (de_var 1) da_nil) (hj := Nat.le_refl (n + 1)))) (ok := blkOk_by (N := [("value" : Str), ("item" : Str)]) (sc := defScope s__law_plain) (by decide +kernel))))))) dss_nil)
    (dss_cons (ds_if (dt_w (dw_or (dt_cmp cr_is (de_var 0) de_non) (dw_or1 (dt_tru (de_isi "bool" B (de_var 0) B.bool (by decide +kernel)))))) (dss_one (ds_ret (de_ix (DF.sh (df_lst (da_cons de_str (da_cons de_str (da_cons de_str da_nil))))) (de_add (de_toint B (da_cons (de_cmp cr_isNot (de_var 0) de_non) da_nil)) (de_toint B (da_cons (de_cmp cr_isB (de_var 0) de_bl) da_nil)))))) dss_nil)
    (dss_cons (ds_if (dt_tru (de_isi2 "int" "str" B (de_var 0) B.int (by decide +kernel) B.str (by decide +kernel))) (dss_one (ds_ret (DF.sh (df_lst (da_cons (de_isi "str" B (de_var 0) B.str (by decide +kernel)) (da_cons (de_var 0) da_nil)))))) dss_nil)
    (dss_one (ds_ret de_str)))))
theorem sc_law : FnScope [("script" : Str), ("deck" : Str), ("turn" : Str), ("rows" : Str), ("columns" : Str), ("folds" : Str), ("last" : Str), ("sheet" : Str), ("many" : Str), ("ask" : Str), ("wrong" : Str), ("told" : Str)] [("script" : Str)] (defScope s_law) := ⟨rfl, rfl, rfl, by decide +kernel, rfl, by decide +kernel, by decide +kernel⟩
theorem G_law {f : Addr} {fd : FuncData} (B : Bi mg) (G__law_deck : Fd P w K mg base ("_law_deck" : Str) 1 false true 3 F__law_deck) (G__law_plain_sheet : Fd P w K mg base ("_law_plain_sheet" : Str) 1 false false 2 F__law_plain_sheet) (G__law_one_fold : Fd P w K mg base ("_law_one_fold" : Str) 1 false false 4 F__law_one_fold) (G__law_take : Fd P w K mg base ("_law_take" : Str) 1 true false 2 F__law_take) (G__law_folds : Fd P w K mg base ("_law_folds" : Str) 2 true false 3 F__law_folds) (G_folded : Fd P w K mg base ("folded" : Str) 5 false false 3 F_folded) (G_heap_of : Fd P w K mg base ("heap_of" : Str) 6 false false 3 F_heap_of) (G__law_refusal : Fd P w K mg base ("_law_refusal" : Str) 7 false false 4 F__law_refusal) (G__law_plain : Fd P w K mg base ("_law_plain" : Str) 8 false false 1 F__law_plain) (F : FnP K ("law" : Str) ("law" : Str) s_law f fd) (hm : mg ("law" : Str) = some (.ref f)) : FnOk P w K mg base (L2.CX P w) 9 f fd [("script" : Str)] (spD K mg false false 1 F_law) := by
  exact fn_okD (k := 8) F sc_law (by decide) fun cdv A outer s H E c po =>
    (dss_cons (ds_setF c 1 (df_call G__law_deck c (da_cons (de_var 0) (da_cons de_int (da_cons de_int da_nil)))))
    (dss_cons (ds_for po c (di_r1 B (da_cons de_int da_nil)) (dg_name c 2) (dss_cons (ds_set c 3 (de_add de_int (de_callIo G__law_take c 1 (pv 1) (da_cons de_int da_nil))))
    (dss_cons (ds_set c 4 (de_add de_int (de_callIo G__law_take c 1 (pv 1) (da_cons de_int da_nil))))
    (dss_cons (ds_asg (de_callIo G__law_folds c 1 (pv 1) (da_cons (de_var 3) (da_cons (de_var 4) da_nil))) (dg_tup c (dgs_cons (dg_name c 5) (dgs_cons (dg_name c 6) dgs_nil))))
    (dss_cons (ds_set c 7 (de_call G__law_plain_sheet c (da_cons (de_var 3) (da_cons (de_var 4) da_nil))))
    (dss_cons (ds_for po c (di_r1 B (da_cons (de_add (de_len B (da_cons (de_var 5) da_nil)) de_int) da_nil)) (dg_name c 8) (dss_cons (ds_if (dt_cmp (cr_ne c) (de_call G__law_plain c (da_cons (de_call G_folded c (da_cons (de_var 3) (da_cons (de_var 4) (da_cons (de_sl (de_var 5) do_none (do_some (de_var 8))) da_nil)))) da_nil)) (de_call G__law_plain c (da_cons (de_var 7) da_nil))) (dss_one (ds_ret de_bl)) dss_nil)
    (dss_one (ds_if (dt_cmp cr_lt (de_var 8) (de_len B (da_cons (de_var 5) da_nil))) (dss_cons (ds_if (dt_cmp (cr_ne c) (de_call G__law_refusal c (da_cons de_int (da_cons (de_var 3) (da_cons (de_var 4) (da_cons (de_sl (de_var 5) do_none (do_some (de_var 8))) da_nil))))) de_str) (dss_one (ds_ret de_bl)) dss_nil)
    (dss_one (ds_set c 7 (de_call G__law_one_fold c (da_cons (de_var 7) (da_cons (de_ix (de_ix (de_var 5) (de_var 8)) de_int) (da_cons (de_ix (de_ix (de_var 5) (de_var 8)) de_int) (da_cons (de_ix (de_ix (de_var 5) (de_var 8)) de_int) da_nil)))))))) dss_nil))))
    (dss_cons (ds_if (dt_cmp (cr_ne c) (de_call G__law_plain c (da_cons (de_call G_heap_of c (da_cons (de_var 3) (da_cons (de_var 4) (da_cons (de_var 5) da_nil)))) da_nil)) (de_call G__law_plain c (da_cons (de_ix (de_ix (de_var 6) de_int) de_int) da_nil))) (dss_one (ds_ret de_bl)) dss_nil)
    (dss_cons (ds_set c 9 (de_callIo G__law_take c 1 (pv 1) (da_cons de_int da_nil)))
    (dss_cons (ds_set c 10 (DF.sh (df_lst (da_cons (de_tup (da_cons de_str (da_cons de_int (da_cons de_str da_nil)))) (da_cons (de_tup (da_cons de_str (da_cons (de_var 4) (da_cons de_str da_nil)))) (da_cons (de_tup (da_cons de_str (da_cons (de_var 3) (da_cons de_str da_nil)))) (da_cons (de_tup (da_cons de_str (da_cons de_int (da_cons de_str da_nil)))) da_nil)))))))
    (dss_cons (ds_set c 10 (de_add (de_var 10) (DF.sh (df_lst (da_cons (de_tup (da_cons de_str (da_cons de_int (da_cons de_str da_nil)))) (da_cons (de_tup (da_cons de_str (da_cons de_int da_nil))) (da_cons (DF.sh (df_lst (da_cons de_str (da_cons de_int (da_cons de_str da_nil))))) (da_cons (de_tup (da_cons de_str (da_cons (de_neg de_int) (da_cons de_str da_nil)))) (da_cons de_non da_nil)))))))))
    (dss_cons (ds_if (dt_cmp (cr_ne c) (de_call G__law_refusal c (da_cons (de_var 9) (da_cons (de_var 3) (da_cons (de_var 4) (da_cons (DF.sh (df_lst (da_cons (de_ix (de_var 10) (de_callIo G__law_take c 1 (pv 1) (da_cons de_int da_nil))) da_nil))) da_nil))))) de_str) (dss_one (ds_ret de_bl)) dss_nil)
    (dss_one (ds_if (dt_cmp (cr_ne c) (de_call G__law_refusal c (da_cons (de_var 9) (da_cons (de_var 3) (da_cons (de_var 4) (da_cons (de_add (de_var 5) (DF.sh (df_lst (da_cons (de_tup (da_cons de_str (da_cons de_int (da_cons de_str da_nil)))) da_nil)))) da_nil))))) de_str) (dss_one (ds_ret de_bl)) dss_nil)))))))))))))
    (dss_cons (ds_set c 11 (DF.sh (df_lst (da_cons (de_call G__law_refusal c (da_cons (de_var 9) (da_cons de_int (da_cons de_int (da_cons (DF.sh (df_lst da_nil)) da_nil))))) (da_cons (de_call G__law_refusal c (da_cons (de_var 9) (da_cons de_int (da_cons de_int (da_cons (DF.sh (df_lst (da_cons de_non da_nil))) da_nil))))) (da_cons (de_call G__law_refusal c (da_cons (de_var 9) (da_cons de_int (da_cons de_int (da_cons (DF.sh (df_lst (da_cons de_non da_nil))) da_nil))))) da_nil))))))
    (dss_one (ds_ret (de_cmp (cr_eq c) (de_var 11) (DF.sh (df_lst (da_cons de_str (da_cons de_str (da_cons de_str da_nil)))))))))))
end
def fa : List He.Fa := [.glo ("_law_deck" : Str), .glo ("_law_plain_sheet" : Str), .glo ("_law_one_fold" : Str), .glo ("_law_take" : Str), .glo ("_law_folds" : Str), .glo ("check_size" : Str), .glo ("is_fold" : Str), .glo ("exchanged" : Str), .glo ("mirrored" : Str), .glo ("over_side" : Str), .glo ("over_top" : Str), .glo ("folded_right" : Str), .glo ("one_fold" : Str), .glo ("all_folds" : Str), .glo ("plain" : Str), .glo ("folded" : Str), .glo ("heap_of" : Str), .glo ("_law_refusal" : Str), .glo ("_law_plain" : Str), .glo ("law" : Str), .glo ("InvalidSheet" : Str), .glo ("TooMany" : Str), .glo ("PressError" : Str), .free ("abs" : Str), .free ("all" : Str), .free ("any" : Str), .free ("bool" : Str), .free ("dict" : Str), .free ("enumerate" : Str), .free ("int" : Str), .free ("isinstance" : Str), .free ("len" : Str), .free ("list" : Str), .free ("max" : Str), .free ("min" : Str), .free ("range" : Str), .free ("reversed" : Str), .free ("set" : Str), .free ("sorted" : Str), .free ("str" : Str), .free ("sum" : Str), .free ("tuple" : Str), .free ("zip" : Str), .int ("MOST_LEAVES" : Str) (64)]
def fn : List He.DefD := [⟨(("_law_deck" : Str), none), ("_law_deck" : Str), ("_law_deck" : Str), defArgs s__law_deck, defBody s__law_deck, defScope s__law_deck, [], []⟩, ⟨(("_law_plain_sheet" : Str), none), ("_law_plain_sheet" : Str), ("_law_plain_sheet" : Str), defArgs s__law_plain_sheet, defBody s__law_plain_sheet, defScope s__law_plain_sheet, [], []⟩, ⟨(("_law_one_fold" : Str), none), ("_law_one_fold" : Str), ("_law_one_fold" : Str), defArgs s__law_one_fold, defBody s__law_one_fold, defScope s__law_one_fold, [], []⟩, ⟨(("_law_take" : Str), none), ("_law_take" : Str), ("_law_take" : Str), defArgs s__law_take, defBody s__law_take, defScope s__law_take, [], []⟩, ⟨(("_law_folds" : Str), none), ("_law_folds" : Str), ("_law_folds" : Str), defArgs s__law_folds, defBody s__law_folds, defScope s__law_folds, [], []⟩, ⟨(("check_size" : Str), none), ("check_size" : Str), ("check_size" : Str), defArgs s_check_size, defBody s_check_size, defScope s_check_size, [], []⟩, ⟨(("is_fold" : Str), none), ("is_fold" : Str), ("is_fold" : Str), defArgs s_is_fold, defBody s_is_fold, defScope s_is_fold, [], []⟩, ⟨(("exchanged" : Str), none), ("exchanged" : Str), ("exchanged" : Str), defArgs s_exchanged, defBody s_exchanged, defScope s_exchanged, [], []⟩, ⟨(("mirrored" : Str), none), ("mirrored" : Str), ("mirrored" : Str), defArgs s_mirrored, defBody s_mirrored, defScope s_mirrored, [], []⟩, ⟨(("over_side" : Str), none), ("over_side" : Str), ("over_side" : Str), defArgs s_over_side, defBody s_over_side, defScope s_over_side, [], []⟩, ⟨(("over_top" : Str), none), ("over_top" : Str), ("over_top" : Str), defArgs s_over_top, defBody s_over_top, defScope s_over_top, [], []⟩, ⟨(("folded_right" : Str), none), ("folded_right" : Str), ("folded_right" : Str), defArgs s_folded_right, defBody s_folded_right, defScope s_folded_right, [], []⟩, ⟨(("one_fold" : Str), none), ("one_fold" : Str), ("one_fold" : Str), defArgs s_one_fold, defBody s_one_fold, defScope s_one_fold, [], []⟩, ⟨(("all_folds" : Str), none), ("all_folds" : Str), ("all_folds" : Str), defArgs s_all_folds, defBody s_all_folds, defScope s_all_folds, [], []⟩, ⟨(("plain" : Str), none), ("plain" : Str), ("plain" : Str), defArgs s_plain, defBody s_plain, defScope s_plain, [], []⟩, ⟨(("folded" : Str), none), ("folded" : Str), ("folded" : Str), defArgs s_folded, defBody s_folded, defScope s_folded, [], []⟩, ⟨(("heap_of" : Str), none), ("heap_of" : Str), ("heap_of" : Str), defArgs s_heap_of, defBody s_heap_of, defScope s_heap_of, [], []⟩, ⟨(("_law_refusal" : Str), none), ("_law_refusal" : Str), ("_law_refusal" : Str), defArgs s__law_refusal, defBody s__law_refusal, defScope s__law_refusal, [], []⟩, ⟨(("_law_plain" : Str), none), ("_law_plain" : Str), ("_law_plain" : Str), defArgs s__law_plain, defBody s__law_plain, defScope s__law_plain, [], []⟩, ⟨(("law" : Str), none), ("law" : Str), ("law" : Str), defArgs s_law, defBody s_law, defScope s_law, [], []⟩, ⟨(("InvalidSheet" : Str), some "__init__"), "__init__", "InvalidSheet.__init__", defArgs i_InvalidSheet, defBody i_InvalidSheet, defScope i_InvalidSheet, [], []⟩, ⟨(("TooMany" : Str), some "__init__"), "__init__", "TooMany.__init__", defArgs i_TooMany, defBody i_TooMany, defScope i_TooMany, [], []⟩]
def ex (K : PySem.W.Frag) : Bool := (ecB K ("InvalidSheet" : Str) "what" && (ecB K ("TooMany" : Str) "what" && (peB K "PressError" && (exmB K errs && (ktupB K ("SIDES" : Str) [.str ("bottom" : Str), .str ("left" : Str), .str ("right" : Str), .str ("top" : Str)] && ktupB K ("WAYS" : Str) [.str ("over" : Str), .str ("under" : Str)])))))
abbrev R : PySem.W.OpenRow := PySem.W.OpenLaw.row PySem.Challenge.rw_presswork_k72_whole_sheets_folded
abbrev hk : PySem.W.Hook := hookY 4 fa fn ex
def ob (s : PySem.W.SharedT) : AlY := obsY 4 fa fn ex (HandSHeadRun.getT s)
theorem ob_eq (s : PySem.W.SharedT) : ob s = hk.obs s.abs := obsY_eq (HandSHeadRun.getT_eq s)
theorem run (w : World) : HandSHeadRun.RunEq R (PySem.W.view R.prog [28]) hk ob 3000 [("PressError" : Str), ("InvalidSheet" : Str), ("TooMany" : Str), ("MOST_LEAVES" : Str), ("SIDES" : Str), ("WAYS" : Str), ("check_size" : Str), ("is_fold" : Str), ("plain" : Str), ("over_side" : Str), ("over_top" : Str), ("mirrored" : Str), ("exchanged" : Str), ("folded_right" : Str), ("one_fold" : Str), ("all_folds" : Str), ("folded" : Str), ("heap_of" : Str), ("_law_deck" : Str), ("_law_take" : Str), ("_law_plain" : Str), ("_law_one_fold" : Str), ("_law_plain_sheet" : Str), ("_law_folds" : Str), ("_law_refusal" : Str)] w := by
  intro os
  kernel_rfl
def F_top : Prop := ∀ ns : List Int, ns.length ≤ 63 → ∃ q, F_law [.klst (ns.map .int)] = .ok (.bl true) q
theorem facts (top_ok : F_top) {P : Program} {w : World} {K : PySem.W.Frag} {h : Heap} {mg : Str → Option Value} {f : Addr} (X : K.In h) (G : h.Ns mainGlobals mg) (hfa : mg ("law" : Str) = some (.ref f)) (c : SaysY fa fn ex w K) :
    ∃ fd : FuncData, (∀ (s : Shared) (v : Value), BindsTo s fd ⟨[v], []⟩ [("script", v)]) ∧ ∀ base : Heap, K.In base → base.Ns mainGlobals mg → FnOk P w K mg base (L2.CX P w) 9 f fd ["script"] (spTop K) := by
  have more : ex K = true := c.more
  have c := c.t.d
  obtain ⟨fd__law_deck, D__law_deck⟩ := c.def_ 0 (d := fn[0]) rfl
  obtain ⟨fd__law_plain_sheet, D__law_plain_sheet⟩ := c.def_ 1 (d := fn[1]) rfl
  obtain ⟨fd__law_one_fold, D__law_one_fold⟩ := c.def_ 2 (d := fn[2]) rfl
  obtain ⟨fd__law_take, D__law_take⟩ := c.def_ 3 (d := fn[3]) rfl
  obtain ⟨fd__law_folds, D__law_folds⟩ := c.def_ 4 (d := fn[4]) rfl
  obtain ⟨fd_check_size, D_check_size⟩ := c.def_ 5 (d := fn[5]) rfl
  obtain ⟨fd_is_fold, D_is_fold⟩ := c.def_ 6 (d := fn[6]) rfl
  obtain ⟨fd_exchanged, D_exchanged⟩ := c.def_ 7 (d := fn[7]) rfl
  obtain ⟨fd_mirrored, D_mirrored⟩ := c.def_ 8 (d := fn[8]) rfl
  obtain ⟨fd_over_side, D_over_side⟩ := c.def_ 9 (d := fn[9]) rfl
  obtain ⟨fd_over_top, D_over_top⟩ := c.def_ 10 (d := fn[10]) rfl
  obtain ⟨fd_folded_right, D_folded_right⟩ := c.def_ 11 (d := fn[11]) rfl
  obtain ⟨fd_one_fold, D_one_fold⟩ := c.def_ 12 (d := fn[12]) rfl
  obtain ⟨fd_all_folds, D_all_folds⟩ := c.def_ 13 (d := fn[13]) rfl
  obtain ⟨fd_plain, D_plain⟩ := c.def_ 14 (d := fn[14]) rfl
  obtain ⟨fd_folded, D_folded⟩ := c.def_ 15 (d := fn[15]) rfl
  obtain ⟨fd_heap_of, D_heap_of⟩ := c.def_ 16 (d := fn[16]) rfl
  obtain ⟨fd__law_refusal, D__law_refusal⟩ := c.def_ 17 (d := fn[17]) rfl
  obtain ⟨fd__law_plain, D__law_plain⟩ := c.def_ 18 (d := fn[18]) rfl
  obtain ⟨fd_law, D_law⟩ := c.def_ 19 (d := fn[19]) rfl
  obtain ⟨fd_InvalidSheet, D_InvalidSheet⟩ := c.def_ 20 (d := fn[20]) rfl
  obtain ⟨fd_TooMany, D_TooMany⟩ := c.def_ 21 (d := fn[21]) rfl
  have m__law_deck := He.glo_ok X G (c.fact 0 (f := .glo ("_law_deck" : Str)) rfl)
  have m__law_plain_sheet := He.glo_ok X G (c.fact 1 (f := .glo ("_law_plain_sheet" : Str)) rfl)
  have m__law_one_fold := He.glo_ok X G (c.fact 2 (f := .glo ("_law_one_fold" : Str)) rfl)
  have m__law_take := He.glo_ok X G (c.fact 3 (f := .glo ("_law_take" : Str)) rfl)
  have m__law_folds := He.glo_ok X G (c.fact 4 (f := .glo ("_law_folds" : Str)) rfl)
  have m_check_size := He.glo_ok X G (c.fact 5 (f := .glo ("check_size" : Str)) rfl)
  have m_is_fold := He.glo_ok X G (c.fact 6 (f := .glo ("is_fold" : Str)) rfl)
  have m_exchanged := He.glo_ok X G (c.fact 7 (f := .glo ("exchanged" : Str)) rfl)
  have m_mirrored := He.glo_ok X G (c.fact 8 (f := .glo ("mirrored" : Str)) rfl)
  have m_over_side := He.glo_ok X G (c.fact 9 (f := .glo ("over_side" : Str)) rfl)
  have m_over_top := He.glo_ok X G (c.fact 10 (f := .glo ("over_top" : Str)) rfl)
  have m_folded_right := He.glo_ok X G (c.fact 11 (f := .glo ("folded_right" : Str)) rfl)
  have m_one_fold := He.glo_ok X G (c.fact 12 (f := .glo ("one_fold" : Str)) rfl)
  have m_all_folds := He.glo_ok X G (c.fact 13 (f := .glo ("all_folds" : Str)) rfl)
  have m_plain := He.glo_ok X G (c.fact 14 (f := .glo ("plain" : Str)) rfl)
  have m_folded := He.glo_ok X G (c.fact 15 (f := .glo ("folded" : Str)) rfl)
  have m_heap_of := He.glo_ok X G (c.fact 16 (f := .glo ("heap_of" : Str)) rfl)
  have m__law_refusal := He.glo_ok X G (c.fact 17 (f := .glo ("_law_refusal" : Str)) rfl)
  have m__law_plain := He.glo_ok X G (c.fact 18 (f := .glo ("_law_plain" : Str)) rfl)
  have m_law := He.glo_ok X G (c.fact 19 (f := .glo ("law" : Str)) rfl)
  have m_InvalidSheet := He.glo_ok X G (c.fact 20 (f := .glo ("InvalidSheet" : Str)) rfl)
  have m_TooMany := He.glo_ok X G (c.fact 21 (f := .glo ("TooMany" : Str)) rfl)
  have m_PressError := He.glo_ok X G (c.fact 22 (f := .glo ("PressError" : Str)) rfl)
  have h_MOST_LEAVES := He.int_ok X G (c.fact 43 (f := .int ("MOST_LEAVES" : Str) (64)) rfl)
  have B : Bi mg := ⟨He.free_ok X G (c.fact 31 (f := .free ("len" : Str)) rfl), He.free_ok X G (c.fact 23 (f := .free ("abs" : Str)) rfl), He.free_ok X G (c.fact 33 (f := .free ("max" : Str)) rfl), He.free_ok X G (c.fact 34 (f := .free ("min" : Str)) rfl), He.free_ok X G (c.fact 29 (f := .free ("int" : Str)) rfl), He.free_ok X G (c.fact 40 (f := .free ("sum" : Str)) rfl), He.free_ok X G (c.fact 35 (f := .free ("range" : Str)) rfl), He.free_ok X G (c.fact 32 (f := .free ("list" : Str)) rfl), He.free_ok X G (c.fact 41 (f := .free ("tuple" : Str)) rfl), He.free_ok X G (c.fact 38 (f := .free ("sorted" : Str)) rfl), He.free_ok X G (c.fact 37 (f := .free ("set" : Str)) rfl), He.free_ok X G (c.fact 42 (f := .free ("zip" : Str)) rfl), He.free_ok X G (c.fact 28 (f := .free ("enumerate" : Str)) rfl), He.free_ok X G (c.fact 36 (f := .free ("reversed" : Str)) rfl), He.free_ok X G (c.fact 30 (f := .free ("isinstance" : Str)) rfl), He.free_ok X G (c.fact 39 (f := .free ("str" : Str)) rfl), He.free_ok X G (c.fact 26 (f := .free ("bool" : Str)) rfl), He.free_ok X G (c.fact 27 (f := .free ("dict" : Str)) rfl), He.free_ok X G (c.fact 25 (f := .free ("any" : Str)) rfl), He.free_ok X G (c.fact 24 (f := .free ("all" : Str)) rfl)⟩
  unfold ex at more
  simp only [Bool.and_eq_true] at more
  obtain ⟨x_InvalidSheet, x_TooMany, x_pe, exm, k_SIDES, k_WAYS⟩ := more
  have h_SIDES := ktupB_ok X G k_SIDES
  have h_WAYS := ktupB_ok X G k_WAYS
  have T := peB_ok x_pe
  have hms : ∀ y ∈ errs, mg y = some (.ref (He.ga K y)) := by
    intro y hy
    simp only [errs, List.mem_cons, List.not_mem_nil, or_false] at hy
    rcases hy with rfl | rfl
    · exact m_InvalidSheet
    · exact m_TooMany
  have e := hfa.symm.trans m_law
  cases e
  refine ⟨fd_law, fun s v => FunD.bindsA (ps := ["script"]) D_law (fun _ _ _ _ _ _ us hl => match us, hl with | [_], _ => rfl) s [v] rfl, fun base _ _ => ?_⟩
  have e_InvalidSheet : Ec P w K mg base ("InvalidSheet" : Str) "what" := E_InvalidSheet (ecB_ok x_InvalidSheet) m_InvalidSheet T m_PressError D_InvalidSheet
  have e_TooMany : Ec P w K mg base ("TooMany" : Str) "what" := E_TooMany (ecB_ok x_TooMany) m_TooMany T m_PressError D_TooMany
  have g__law_deck : Fd P w K mg base ("_law_deck" : Str) 1 false true 3 F__law_deck := G__law_deck B D__law_deck m__law_deck
  have g__law_plain_sheet : Fd P w K mg base ("_law_plain_sheet" : Str) 1 false false 2 F__law_plain_sheet := G__law_plain_sheet B D__law_plain_sheet m__law_plain_sheet
  have g__law_one_fold : Fd P w K mg base ("_law_one_fold" : Str) 1 false false 4 F__law_one_fold := G__law_one_fold B D__law_one_fold m__law_one_fold
  have g__law_take : Fd P w K mg base ("_law_take" : Str) 1 true false 2 F__law_take := G__law_take B D__law_take m__law_take
  have g__law_folds : Fd P w K mg base ("_law_folds" : Str) 2 true false 3 F__law_folds := G__law_folds B g__law_plain_sheet g__law_one_fold g__law_take D__law_folds m__law_folds
  have g_check_size : Fd P w K mg base ("check_size" : Str) 3 false false 2 F_check_size := G_check_size B h_MOST_LEAVES e_InvalidSheet e_TooMany D_check_size m_check_size
  have g_is_fold : Fd P w K mg base ("is_fold" : Str) 1 false false 1 F_is_fold := G_is_fold B h_SIDES h_WAYS D_is_fold m_is_fold
  have g_exchanged : Fd P w K mg base ("exchanged" : Str) 1 false false 1 F_exchanged := G_exchanged B D_exchanged m_exchanged
  have g_mirrored : Fd P w K mg base ("mirrored" : Str) 1 false false 1 F_mirrored := G_mirrored B D_mirrored m_mirrored
  have g_over_side : Fd P w K mg base ("over_side" : Str) 1 false false 1 F_over_side := G_over_side B D_over_side m_over_side
  have g_over_top : Fd P w K mg base ("over_top" : Str) 1 false false 1 F_over_top := G_over_top B D_over_top m_over_top
  have g_folded_right : Fd P w K mg base ("folded_right" : Str) 2 false false 4 F_folded_right := G_folded_right B g_over_side g_over_top m_over_side m_over_top D_folded_right m_folded_right
  have g_one_fold : Fd P w K mg base ("one_fold" : Str) 3 false false 2 F_one_fold := G_one_fold B g_exchanged g_mirrored g_folded_right m_over_side m_over_top D_one_fold m_one_fold
  have g_all_folds : Fd P w K mg base ("all_folds" : Str) 4 false false 2 F_all_folds := G_all_folds B g_is_fold g_one_fold D_all_folds m_all_folds
  have g_plain : Fd P w K mg base ("plain" : Str) 1 false false 2 F_plain := G_plain B D_plain m_plain
  have g_folded : Fd P w K mg base ("folded" : Str) 5 false false 3 F_folded := G_folded B e_InvalidSheet g_check_size g_all_folds g_plain D_folded m_folded
  have g_heap_of : Fd P w K mg base ("heap_of" : Str) 6 false false 3 F_heap_of := G_heap_of B e_InvalidSheet g_folded D_heap_of m_heap_of
  have g__law_refusal : Fd P w K mg base ("_law_refusal" : Str) 7 false false 4 F__law_refusal := G__law_refusal B e_InvalidSheet e_TooMany exm hms g_folded g_heap_of D__law_refusal m__law_refusal
  have g__law_plain : Fd P w K mg base ("_law_plain" : Str) 8 false false 1 F__law_plain := G__law_plain B D__law_plain m__law_plain 7
  exact fd_top (G_law B g__law_deck g__law_plain_sheet g__law_one_fold g__law_take g__law_folds g_folded g_heap_of g__law_refusal g__law_plain D_law m_law) top_ok
end PL.K72

set_option Elab.async false
set_option linter.all false
set_option maxRecDepth 100000
set_option maxHeartbeats 4000000
namespace PL.K72
open PySem PySem.Spec L2 PL
set_option autoImplicit false
/-! ### leaves, heaps, sheets -/
abbrev Leaf := Nat × Nat × Bool × Bool
def fs (b : Bool) : Str := if b then "front" else "back"
def leafP (l : Leaf) : PV := .tup [.int l.1, .int l.2.1, .str (fs l.2.2.1), .bl l.2.2.2]
def heapP (h : List Leaf) : PV := .lst (h.map leafP)
abbrev SF := Nat → Nat → List Leaf
def rowP (C : Nat) (f : Nat → List Leaf) : PV := .lst ((List.range C).map fun c => heapP (f c))
def shP (R C : Nat) (f : SF) : PV := .lst ((List.range R).map fun r => rowP C (f r))
def oS (l : Leaf) : Leaf := (l.1, l.2.1, !l.2.2.1, l.2.2.2)
def oT (l : Leaf) : Leaf := (l.1, l.2.1, !l.2.2.1, !l.2.2.2)
theorem fs_eq (b : Bool) : gEq (.str (fs b)) (.str "front") = some (.bl b) := by cases b <;> kernel_rfl
theorem fs_not (b : Bool) : fs (!b) = if b then "back" else "front" := by cases b <;> rfl
theorem F_side_ok (l : Leaf) : F_over_side [leafP l] = .ok (leafP (oS l)) .non := by
  obtain ⟨r, c, f, t⟩ := l
  refine run_rt (env := [.sh (leafP (r, c, f, t)), .un, .un, .un, .un]) (ρ := [.sh (leafP (r, c, f, t)), .sh (.int r), .sh (.int c), .sh (.str (fs f)), .sh (.bl t)]) ?_
  cases f <;> simp [den_over_side, leafP, oS, szn (show 4 ≤ 1000000 by omega), fs_eq] <;> rfl
theorem F_top_ok (l : Leaf) : F_over_top [leafP l] = .ok (leafP (oT l)) .non := by
  obtain ⟨r, c, f, t⟩ := l
  refine run_rt (env := [.sh (leafP (r, c, f, t)), .un, .un, .un, .un]) (ρ := [.sh (leafP (r, c, f, t)), .sh (.int r), .sh (.int c), .sh (.str (fs f)), .sh (.bl t)]) ?_
  cases f <;> simp [den_over_top, leafP, oT, szn (show 4 ≤ 1000000 by omega), fs_eq, truth] <;> rfl
theorem rev_range {α : Type} (n : Nat) (f : Nat → α) : ((List.range n).map f).reverse = (List.range n).map fun i => f (n - 1 - i) := by
  refine List.ext_getElem (by simp) fun i h1 h2 => ?_
  simp
theorem F_mirrored_ok {R C : Nat} {f : SF} (hR : R ≤ 1000) : F_mirrored [shP R C f] = .ok (shP R C fun r c => f r (C - 1 - c)) .non := by
  refine run_rt (env := [.sh (shP R C f), .un]) (ρ := [.sh (shP R C f), .un]) ?_
  unfold den_mirrored
  rw [ap_sRet, dLc_ok (fun r => rowP C (f r)) (fun r => rowP C fun c => f r (C - 1 - c)) (List.range R) (by simp [shP]) rfl (by simp; omega)]
  · rfl
  · intro r _
    simp [E_mirrored_1, rowP, rev_range]
theorem F_exchanged_ok {R C : Nat} {f : SF} (h : 1 ≤ R) (hR : R ≤ 1000) (hC : C ≤ 1000) : F_exchanged [shP R C f] = .ok (shP C R fun r c => f c r) .non := by
  have h0 : L2.atI ((List.range R).map fun r => rowP C (f r)) 0 = some (rowP C (f 0)) := atI_map (i := 0) h
  refine run_rt (env := [.sh (shP R C f), .un, .un]) (ρ := [.sh (shP R C f), .un, .un]) ?_
  unfold den_exchanged
  rw [ap_sRet, dLc_okR (n := C) (fun c => rowP R fun r => f r c) (by simp [shP, h0]; simp [rowP, rg1_nat (show C ≤ 1000000000 by omega)]) rfl (by omega)]
  · rfl
  · intro c hc
    unfold E_exchanged_1
    rw [dLc_ok (fun r => rowP C (f r)) (fun r => heapP (f r c)) (List.range R) (by simp [shP]) rfl (by simp; omega)]
    · rfl
    · intro r _
      simp [E_exchanged_2, rowP, atI_map hc]
/-! ### one fold to the left -/
def ws (b : Bool) : Str := if b then "over" else "under"
theorem ws_eq (b : Bool) : gEq (.str (ws b)) (.str "over") = some (.bl b) := by cases b <;> kernel_rfl
def comb (ov : Bool) (M U : List Leaf) : List Leaf := if ov then M ++ U else U ++ M
def frG (C p : Nat) (ov : Bool) (o : Leaf → Leaf) (f : Nat → List Leaf) (s : Nat) : List Leaf := comb ov (if s < C - p then ((f (p + s)).map o).reverse else []) (if s < p then f (p - 1 - s) else [])
inductive Turn : Str → (Leaf → Leaf) → Prop
  | side : Turn "over_side" oS
  | top : Turn "over_top" oT
def frE (a0 : PV) (p : Nat) (ov : Bool) (nm : Str) (found : List PV) (s5 s6 s7 s8 s9 s10 s11 s12 : Sl) : Env := [.sh a0, .sh (.int (p : Int)), .sh (.str (ws ov)), .sh (.fn nm), .ow (.lst found), s5, s6, s7, s8, s9, s10, s11, s12, .un, .un]
theorem turn_elt {nm : Str} {o : Leaf → Leaf} (h : Turn nm o) {s0 s1 s2 s4 s5 s6 s7 s8 s9 s10 s11 s12 s14 : Sl} (l : Leaf) : E_folded_right_3 [s0, s1, s2, .sh (.fn nm), s4, s5, s6, s7, s8, s9, s10, s11, s12, .sh (leafP l), s14] = .ok (leafP (o l)) [s0, s1, s2, .sh (.fn nm), s4, s5, s6, s7, s8, s9, s10, s11, s12, .sh (leafP l), s14] := by
  have ne : ¬ ("over_top" : Str) = "over_side" := by decide +kernel
  cases h with
  | side => simp [E_folded_right_3, F_side_ok]
  | top => simp [E_folded_right_3, F_top_ok, ne]
theorem turn_heap {nm : Str} {o : Leaf → Leaf} (h : Turn nm o) {s0 s1 s2 s4 s5 s6 s7 s8 s9 s10 s11 s12 : Sl} (hp : List Leaf) (hl : hp.length ≤ 1000) : E_folded_right_2 [s0, s1, s2, .sh (.fn nm), s4, s5, s6, s7, s8, s9, s10, s11, s12, .un, .sh (heapP hp)] = .ok (heapP ((hp.map o).reverse)) [s0, s1, s2, .sh (.fn nm), s4, s5, s6, s7, s8, s9, s10, s11, s12, .un, .sh (heapP hp)] := by
  unfold E_folded_right_2
  rw [dLc_ok leafP (fun l => leafP (o l)) hp.reverse (by simp [heapP]) rfl (by simp; omega)]
  · simp [heapP]
  · intro l _
    exact turn_elt h l
theorem step_body {C p s : Nat} {ov : Bool} {o : Leaf → Leaf} {f : Nat → List Leaf} {a0 : PV} {nm : Str} {found : List PV} {s5 s11 s12 : Sl} (hs : s ≤ 1000) (hB : ∀ c, (f c).length ≤ 1000) :
    ∃ s11' s12', B_folded_right_4 (frE a0 p ov nm found s5 (.sh (.lst ((List.range p).map fun c => heapP (f c)))) (.sh (.lst ((List.range (C - p)).map fun i => heapP (((f (p + i)).map o).reverse)))) (.sh (.int (max p (C - p) : Nat))) (.ow (.lst ((List.range s).map fun s => heapP (frG C p ov o f s)))) (.sh (.int (s : Int))) s11 s12)
      = .nx (frE a0 p ov nm found s5 (.sh (.lst ((List.range p).map fun c => heapP (f c)))) (.sh (.lst ((List.range (C - p)).map fun i => heapP (((f (p + i)).map o).reverse)))) (.sh (.int (max p (C - p) : Nat))) (.ow (.lst ((List.range (s + 1)).map fun s => heapP (frG C p ov o f s)))) (.sh (.int (s : Int))) s11' s12') := by
  obtain ⟨lo, hlo⟩ : ∃ lo, lo = if s < p then f (p - 1 - s) else [] := ⟨_, rfl⟩
  obtain ⟨hi, hhi⟩ : ∃ hi, hi = if s < C - p then ((f (p + s)).map o).reverse else [] := ⟨_, rfl⟩
  have l1 : lo.length ≤ 1000 := by rw [hlo]; split <;> simp [hB]
  have l2 : hi.length ≤ 1000 := by rw [hhi]; split <;> simp [hB]
  refine ⟨.sh (heapP lo), .sh (heapP hi), ?_⟩
  have e1 : frG C p ov o f s = comb ov hi lo := by rw [hlo, hhi]; rfl
  rw [List.range_succ, List.map_append, List.map_singleton, e1]
  unfold B_folded_right_4
  have S1 : ∀ s9 s10, sSet 11 (dIf (bVal (d2 gLt (dVar 10) (dVar 1))) (d2 gIx (dVar 6) (dSub (dSub (dVar 1) (dC (.int 1))) (dVar 10))) (dLst dNil)) (frE a0 p ov nm found s5 (.sh (.lst ((List.range p).map fun c => heapP (f c)))) s9 s10 (.ow (.lst ((List.range s).map fun s => heapP (frG C p ov o f s)))) (.sh (.int (s : Int))) s11 s12)
      = .nx (frE a0 p ov nm found s5 (.sh (.lst ((List.range p).map fun c => heapP (f c)))) s9 s10 (.ow (.lst ((List.range s).map fun s => heapP (frG C p ov o f s)))) (.sh (.int (s : Int))) (.sh (heapP lo)) s12) := by
    intro s9 s10
    by_cases h : s < p
    · have e2 : (p : Int) - 1 - (s : Int) = ((p - 1 - s : Nat) : Int) := by omega
      have e3 := atI_map (f := fun c => heapP (f c)) (n := p) (i := p - 1 - s) (by omega)
      rw [hlo, if_pos h]
      simp [frE, h, e2, e3]
    · rw [hlo, if_neg h]
      simp [frE, h, heapP]
  have S2 : ∀ s8 s6, sSet 12 (dIf (bVal (d2 gLt (dVar 10) (dN gLenN (dCons (dVar 7) dNil)))) (d2 gIx (dVar 7) (dVar 10)) (dLst dNil)) (frE a0 p ov nm found s5 s6 (.sh (.lst ((List.range (C - p)).map fun i => heapP (((f (p + i)).map o).reverse)))) s8 (.ow (.lst ((List.range s).map fun s => heapP (frG C p ov o f s)))) (.sh (.int (s : Int))) (.sh (heapP lo)) s12)
      = .nx (frE a0 p ov nm found s5 s6 (.sh (.lst ((List.range (C - p)).map fun i => heapP (((f (p + i)).map o).reverse)))) s8 (.ow (.lst ((List.range s).map fun s => heapP (frG C p ov o f s)))) (.sh (.int (s : Int))) (.sh (heapP lo)) (.sh (heapP hi))) := by
    intro s8 s6
    by_cases h : s < C - p
    · have e3 := atI_map (f := fun i => heapP (((f (p + i)).map o).reverse)) (n := C - p) (i := s) h
      rw [hhi, if_pos h]
      simp [frE, h, e3]
    · rw [hhi, if_neg h]
      simp [frE, h, heapP]
  rw [seq_nx (S1 _ _), seq_nx (S2 _ _)]
  cases ov <;> simp [frE, heapP, ws_eq, comb, szn (show hi.length + lo.length ≤ 1000000 by omega), szn (show lo.length + hi.length ≤ 1000000 by omega), szl (show s ≤ 1000000 by omega)]
theorem row_body {C p : Nat} {ov : Bool} {o : Leaf → Leaf} {f : Nat → List Leaf} {a0 : PV} {nm : Str} {found : List PV} {s6 s7 s8 s9 s10 s11 s12 : Sl} (ht : Turn nm o) (hp : p ≤ C) (hC : C ≤ 1000) (hB : ∀ c, (f c).length ≤ 1000) (hf : found.length ≤ 1000) :
    ∃ t6 t7 t8 t9 t10 t11 t12, B_folded_right_1 (frE a0 p ov nm found (.sh (rowP C f)) s6 s7 s8 s9 s10 s11 s12) = .nx (frE a0 p ov nm (found ++ [rowP (max p (C - p)) fun j => frG C p ov o f (max p (C - p) - 1 - j)]) (.sh (rowP C f)) t6 t7 t8 t9 t10 t11 t12) := by
  obtain ⟨w, hw⟩ : ∃ w, w = max p (C - p) := ⟨_, rfl⟩
  have hw1 : w ≤ 1000 := by omega
  obtain ⟨low, hlow⟩ : ∃ low : PV, low = .lst ((List.range p).map fun c => heapP (f c)) := ⟨_, rfl⟩
  obtain ⟨part, hpart⟩ : ∃ part : PV, part = .lst ((List.range (C - p)).map fun i => heapP (((f (p + i)).map o).reverse)) := ⟨_, rfl⟩
  have tk : ((List.range C).map fun c => heapP (f c)).take p = (List.range p).map fun c => heapP (f c) := by
    rw [← List.map_take, List.take_range, Nat.min_eq_left hp]
  have dp : ((List.range C).map fun c => heapP (f c)).drop p = (List.range (C - p)).map fun i => heapP (f (p + i)) := by
    refine List.ext_getElem (by simp) fun i h1 h2 => ?_
    simp
  have c1 : cutP ((List.range C).map fun c => heapP (f c)) none (some (p : Int)) = (List.range p).map fun c => heapP (f c) := (cutP_hi _ p).trans tk
  have c2 : cutP ((List.range C).map fun c => heapP (f c)) (some (p : Int)) none = (List.range (C - p)).map fun i => heapP (f (p + i)) := (cutP_lo _ p).trans dp
  obtain ⟨ρ, k1, s11', s12', s10', k2, k3⟩ := dLoop_inv (tgt := gName 10) (body := B_folded_right_4) (items := rangeP 0 w) (ρ0 := frE a0 p ov nm found (.sh (rowP C f)) (.sh low) (.sh part) (.sh (.int (w : Nat))) (.ow (.lst [])) s10 s11 s12)
    (fun i ρ => ∃ s11 s12 s10, i ≤ w ∧ ρ = frE a0 p ov nm found (.sh (rowP C f)) (.sh low) (.sh part) (.sh (.int (w : Nat))) (.ow (.lst ((List.range i).map fun s => heapP (frG C p ov o f s)))) s10 s11 s12)
    (fun i x ρ hx hi => by
      obtain ⟨hie, rfl⟩ := rangeP_get hx
      obtain ⟨s11, s12, s10, _, rfl⟩ := hi
      obtain ⟨t1, t2, e⟩ := step_body (C := C) (p := p) (s := i) (ov := ov) (o := o) (f := f) (a0 := a0) (nm := nm) (found := found) (s5 := .sh (rowP C f)) (s11 := s11) (s12 := s12) (by omega) hB
      rw [← hlow, ← hpart, ← hw] at e
      rw [Int.zero_add]
      exact ⟨_, _, rfl, .inl e, t1, t2, _, by omega, rfl⟩) ⟨s11, s12, s10, by omega, rfl⟩
  rw [rangeP_len] at k3
  subst k3
  refine ⟨.sh low, .sh part, .sh (.int (w : Nat)), .sh (.lst ((List.range w).map fun s => heapP (frG C p ov o f s))), s10', s11', s12', ?_⟩
  rw [← hw]
  unfold B_folded_right_1
  have S1 : sSet 6 (dSl gSl (dVar 5) oNone (oSome (dVar 1))) (frE a0 p ov nm found (.sh (rowP C f)) s6 s7 s8 s9 s10 s11 s12) = .nx (frE a0 p ov nm found (.sh (rowP C f)) (.sh low) s7 s8 s9 s10 s11 s12) := by
    simp [frE, rowP, c1, hlow]
  have S2 : sSet 7 (dLc [14] (iSeq (dSl gSl (dVar 5) (oSome (dVar 1)) oNone)) (gName 14) bYes E_folded_right_2) (frE a0 p ov nm found (.sh (rowP C f)) (.sh low) s7 s8 s9 s10 s11 s12) = .nx (frE a0 p ov nm found (.sh (rowP C f)) (.sh low) (.sh part) s8 s9 s10 s11 s12) := by
    rw [ap_sSet, dLc_ok (fun i => heapP (f (p + i))) (fun i => heapP (((f (p + i)).map o).reverse)) (List.range (C - p)) (by simp [frE, rowP, c2]) rfl (by simp; omega)]
    · rw [hpart]; rfl
    · intro i _
      exact turn_heap ht (f (p + i)) (hB _)
  have S3 : sSet 8 (dN gMax2 (dCons (dVar 1) (dCons (dN gLenN (dCons (dVar 7) dNil)) dNil))) (frE a0 p ov nm found (.sh (rowP C f)) (.sh low) (.sh part) s8 s9 s10 s11 s12) = .nx (frE a0 p ov nm found (.sh (rowP C f)) (.sh low) (.sh part) (.sh (.int (w : Nat))) s9 s10 s11 s12) := by
    have e : (if p < C - p then ((C - p : Nat) : Int) else (p : Int)) = (w : Int) := by
      rw [hw]; split <;> omega
    simp [frE, hpart, e]
  have S4 : sSetF 9 (dLst dNil) (frE a0 p ov nm found (.sh (rowP C f)) (.sh low) (.sh part) (.sh (.int (w : Nat))) s9 s10 s11 s12) = .nx (frE a0 p ov nm found (.sh (rowP C f)) (.sh low) (.sh part) (.sh (.int (w : Nat))) (.ow (.lst [])) s10 s11 s12) := by simp [frE]
  have S5 : sFor (iR1 (dCons (dVar 8) dNil)) (gName 10) B_folded_right_4 (frE a0 p ov nm found (.sh (rowP C f)) (.sh low) (.sh part) (.sh (.int (w : Nat))) (.ow (.lst [])) s10 s11 s12) = .nx (frE a0 p ov nm found (.sh (rowP C f)) (.sh low) (.sh part) (.sh (.int (w : Nat))) (.ow (.lst ((List.range w).map fun s => heapP (frG C p ov o f s)))) s10' s11' s12') := by
    rw [← k1]
    simp [frE, rg1_nat (show w ≤ 1000000000 by omega)]
  rw [seq_nx S1, seq_nx S2, seq_nx S3, seq_nx S4, seq_nx S5]
  have er : ((List.range w).map fun s => heapP (frG C p ov o f s)).reverse = (List.range w).map fun j => heapP (frG C p ov o f (w - 1 - j)) := rev_range _ _
  simp [frE, rowP, er, szl (show found.length ≤ 1000000 by omega)]
theorem F_fold_ok {R C p : Nat} {ov : Bool} {o : Leaf → Leaf} {f : SF} {nm : Str} (ht : Turn nm o) (hR : R ≤ 1000) (hp : p ≤ C) (hC : C ≤ 1000) (hB : ∀ r c, (f r c).length ≤ 1000) :
    F_folded_right [shP R C f, .int (p : Int), .str (ws ov), .fn nm] = .ok (shP R (max p (C - p)) fun r j => frG C p ov o (f r) (max p (C - p) - 1 - j)) .non := by
  obtain ⟨ρ, k1, s5, s6, s7, s8, s9, s10, s11, s12, k2, k3⟩ := dLoop_inv (tgt := gName 5) (body := B_folded_right_1) (items := (List.range R).map fun r => rowP C (f r)) (ρ0 := frE (shP R C f) p ov nm [] .un .un .un .un .un .un .un .un)
    (fun i ρ => ∃ s5 s6 s7 s8 s9 s10 s11 s12, i ≤ R ∧ ρ = frE (shP R C f) p ov nm ((List.range i).map fun r => rowP (max p (C - p)) fun j => frG C p ov o (f r) (max p (C - p) - 1 - j)) s5 s6 s7 s8 s9 s10 s11 s12)
    (fun i x ρ hx hi => by
      obtain ⟨s5, s6, s7, s8, s9, s10, s11, s12, _, rfl⟩ := hi
      rw [List.getElem?_map] at hx
      cases e : (List.range R)[i]? with
      | none => rw [e] at hx; cases hx
      | some r =>
        rw [e] at hx; cases hx
        have hi := (List.getElem?_eq_some_iff.mp e).1
        rw [List.length_range] at hi
        rw [List.getElem?_range hi] at e
        cases e
        obtain ⟨t6, t7, t8, t9, t10, t11, t12, k⟩ := row_body (C := C) (p := p) (ov := ov) (o := o) (f := f i) (a0 := shP R C f) (nm := nm) (found := (List.range i).map fun r => rowP (max p (C - p)) fun j => frG C p ov o (f r) (max p (C - p) - 1 - j)) (s6 := s6) (s7 := s7) (s8 := s8) (s9 := s9) (s10 := s10) (s11 := s11) (s12 := s12) ht hp hC (hB i) (by simp; omega)
        refine ⟨_, _, rfl, .inl k, .sh (rowP C (f i)), t6, t7, t8, t9, t10, t11, t12, by omega, ?_⟩
        rw [List.range_succ, List.map_append, List.map_singleton]) ⟨_, _, _, _, _, _, _, _, by omega, rfl⟩
  rw [List.length_map, List.length_range] at k3
  subst k3
  have S : sFor (iSeq (dVar 0)) (gName 5) B_folded_right_1 [.sh (shP R C f), .sh (.int (p : Int)), .sh (.str (ws ov)), .sh (.fn nm), .ow (.lst []), .un, .un, .un, .un, .un, .un, .un, .un, .un, .un] = .nx (frE (shP R C f) p ov nm ((List.range R).map fun r => rowP (max p (C - p)) fun j => frG C p ov o (f r) (max p (C - p) - 1 - j)) s5 s6 s7 s8 s9 s10 s11 s12) := by
    rw [← k1]
    simp [frE, shP]
  have D : den_folded_right [.sh (shP R C f), .sh (.int (p : Int)), .sh (.str (ws ov)), .sh (.fn nm), .un, .un, .un, .un, .un, .un, .un, .un, .un, .un, .un] = .rt (shP R (max p (C - p)) fun r j => frG C p ov o (f r) (max p (C - p) - 1 - j)) ((frE (shP R C f) p ov nm [] s5 s6 s7 s8 s9 s10 s11 s12).set 4 (.sh (shP R (max p (C - p)) fun r j => frG C p ov o (f r) (max p (C - p) - 1 - j)))) := by
    unfold den_folded_right
    (apply sq_step; focus (simp [szn] <;> rfl))
    rw [seq_nx S]
    simp [frE, shP]
  exact run_rt D
/-! ### one fold of the program's -/
inductive Side where
  | right | left | bottom | top
deriving DecidableEq
def ss : Side → Str
  | .right => "right"
  | .left => "left"
  | .bottom => "bottom"
  | .top => "top"
structure SS where
  R : Nat
  C : Nat
  f : SF
def SS.P (t : SS) : PV := shP t.R t.C t.f
abbrev Fold := Side × Nat × Bool
def foldP (x : Fold) : PV := .tup [.str (ss x.1), .int (x.2.1 : Int), .str (ws x.2.2)]
def stepF (t : SS) (x : Fold) : SS := match x.1 with
  | .right => ⟨t.R, max x.2.1 (t.C - x.2.1), fun r j => frG t.C x.2.1 x.2.2 oS (t.f r) (max x.2.1 (t.C - x.2.1) - 1 - j)⟩
  | .left => ⟨t.R, max (t.C - x.2.1) (t.C - (t.C - x.2.1)), fun r j => frG t.C (t.C - x.2.1) x.2.2 oS (fun c => t.f r (t.C - 1 - c)) (max (t.C - x.2.1) (t.C - (t.C - x.2.1)) - 1 - (max (t.C - x.2.1) (t.C - (t.C - x.2.1)) - 1 - j))⟩
  | .bottom => ⟨max x.2.1 (t.R - x.2.1), t.C, fun j c => frG t.R x.2.1 x.2.2 oT (fun k => t.f k c) (max x.2.1 (t.R - x.2.1) - 1 - j)⟩
  | .top => ⟨max (t.R - x.2.1) (t.R - (t.R - x.2.1)), t.C, fun j c => frG t.R (t.R - x.2.1) x.2.2 oT (fun k => t.f (t.R - 1 - k) c) (max (t.R - x.2.1) (t.R - (t.R - x.2.1)) - 1 - (max (t.R - x.2.1) (t.R - (t.R - x.2.1)) - 1 - j))⟩
def okF (t : SS) (x : Fold) : Prop := 0 < x.2.1 ∧ match x.1 with
  | .right => x.2.1 < t.C
  | .left => x.2.1 < t.C
  | .bottom => x.2.1 < t.R
  | .top => x.2.1 < t.R
theorem frG_len {C p : Nat} {ov : Bool} {o : Leaf → Leaf} {f : Nat → List Leaf} {s B : Nat} (h : ∀ c, (f c).length ≤ B) : (frG C p ov o f s).length ≤ 2 * B := by
  unfold frG comb
  have h1 : (if s < C - p then (((f (p + s)).map o).reverse) else []).length ≤ B := by split <;> simp [h]
  have h2 : (if s < p then f (p - 1 - s) else []).length ≤ B := by split <;> simp [h]
  split <;> rw [List.length_append] <;> omega
structure Bd (t : SS) : Prop where
  sz : t.R + t.C ≤ 9
  r : 1 ≤ t.R
  c : 1 ≤ t.C
  l : ∀ r c, (t.f r c).length ≤ 2 ^ (9 - (t.R + t.C))
theorem Bd.l' {t : SS} (h : Bd t) (r c : Nat) : (t.f r c).length ≤ 1000 := by
  refine Nat.le_trans (h.l r c) (Nat.le_trans (Nat.pow_le_pow_right (by omega) (show 9 - (t.R + t.C) ≤ 9 by omega)) (by decide))
theorem pow_step {a b : Nat} (h : a + 1 ≤ b) : 2 * 2 ^ a ≤ 2 ^ b := by
  rw [Nat.mul_comm, ← Nat.pow_succ]
  exact Nat.pow_le_pow_right (by omega) h
theorem Bd.step {t : SS} {x : Fold} (h : Bd t) (k : okF t x) : Bd (stepF t x) := by
  obtain ⟨s, p, ov⟩ := x
  obtain ⟨R, C, f⟩ := t
  obtain ⟨h1, h2, h3, h4⟩ := h
  obtain ⟨k1, k2⟩ := k
  simp only at h1 h2 h3 h4 k1
  cases s <;> simp only at k2
  · exact ⟨by simp only [stepF]; omega, by simp only [stepF]; omega, by simp only [stepF]; omega, fun r c => Nat.le_trans (frG_len (B := 2 ^ (9 - (R + C))) fun k => h4 r k) (pow_step (by simp only [stepF]; omega))⟩
  · exact ⟨by simp only [stepF]; omega, by simp only [stepF]; omega, by simp only [stepF]; omega, fun r c => Nat.le_trans (frG_len (B := 2 ^ (9 - (R + C))) fun k => h4 r (C - 1 - k)) (pow_step (by simp only [stepF]; omega))⟩
  · exact ⟨by simp only [stepF]; omega, by simp only [stepF]; omega, by simp only [stepF]; omega, fun r c => Nat.le_trans (frG_len (B := 2 ^ (9 - (R + C))) fun k => h4 k c) (pow_step (by simp only [stepF]; omega))⟩
  · exact ⟨by simp only [stepF]; omega, by simp only [stepF]; omega, by simp only [stepF]; omega, fun r c => Nat.le_trans (frG_len (B := 2 ^ (9 - (R + C))) fun k => h4 (R - 1 - k) c) (pow_step (by simp only [stepF]; omega))⟩
theorem not2 {s t : Str} (h : (s == t) = false) : ¬ s = t := by
  intro e
  subst e
  simp at h
theorem F_one_ok {t : SS} {x : Fold} (h : Bd t) (k : okF t x) : F_one_fold [t.P, foldP x] = .ok (stepF t x).P .non := by
  have hl := h.l'
  obtain ⟨h1, h2, h3, h4⟩ := h
  obtain ⟨s, p, ov⟩ := x
  obtain ⟨R, C, f⟩ := t
  obtain ⟨k1, k2⟩ := k
  simp only at h1 h2 h3 h4 k1 hl
  have i0 : L2.atI ((List.range R).map fun r => rowP C (f r)) 0 = some (rowP C (f 0)) := atI_map (i := 0) h2
  have hI : gIx (shP R C f) (.int 0) = some (rowP C (f 0)) := i0
  have hLen : gLen (rowP C (f 0)) = some (.int (C : Int)) := by simp [rowP]
  have hLen2 : gLen (shP R C f) = some (.int (R : Int)) := by simp [shP]
  have m1 := F_mirrored_ok (R := R) (C := C) (f := f) (by omega)
  have x1 := F_exchanged_ok (R := R) (C := C) (f := f) h2 (by omega) (by omega)
  cases s with
  | right =>
    simp only at k2
    have q := F_fold_ok (R := R) (C := C) (p := p) (ov := ov) (o := oS) (f := f) .side (by omega) (by omega) (by omega) hl
    have a1 : gInT false (.str "right") (.tup [.str "right", .str "left"]) = some (.bl true) := by kernel_rfl
    have a2 : gEq (.str "right") (.str "right") = some (.bl true) := by kernel_rfl
    have D : den_one_fold [.sh (shP R C f), .sh (foldP (.right, p, ov)), .un, .un, .un, .un] = .rt (stepF ⟨R, C, f⟩ (.right, p, ov)).P [.sh (shP R C f), .sh (foldP (.right, p, ov)), .sh (.str "right"), .sh (.int (p : Int)), .sh (.str (ws ov)), .un] := by
      unfold den_one_fold
      (apply sq_step; focus (simp [foldP, ss] <;> rfl))
      simp [a1, a2, q, szn (show 2 ≤ 1000000 by omega), k1, k2, hI, hLen]
      exact ⟨rfl, rfl⟩
    exact run_rt D
  | left =>
    simp only at k2
    have q := F_fold_ok (R := R) (C := C) (p := C - p) (ov := ov) (o := oS) (f := fun r c => f r (C - 1 - c)) .side (by omega) (by omega) (by omega) fun r c => hl _ _
    have m2 := F_mirrored_ok (R := R) (C := max (C - p) (C - (C - p))) (f := fun r j => frG C (C - p) ov oS (fun c => f r (C - 1 - c)) (max (C - p) (C - (C - p)) - 1 - j)) (by omega)
    have a1 : gInT false (.str "left") (.tup [.str "right", .str "left"]) = some (.bl true) := by kernel_rfl
    have a2 : gEq (.str "left") (.str "right") = some (.bl false) := by kernel_rfl
    have a3 : (C : Int) - (p : Int) = ((C - p : Nat) : Int) := by omega
    have D : den_one_fold [.sh (shP R C f), .sh (foldP (.left, p, ov)), .un, .un, .un, .un] = .rt (stepF ⟨R, C, f⟩ (.left, p, ov)).P [.sh (shP R C f), .sh (foldP (.left, p, ov)), .sh (.str "left"), .sh (.int (p : Int)), .sh (.str (ws ov)), .un] := by
      unfold den_one_fold
      (apply sq_step; focus (simp [foldP, ss] <;> rfl))
      simp [a1, a2, a3, m1, q, m2, szn (show 2 ≤ 1000000 by omega), k1, k2, hI, hLen]
      exact ⟨rfl, rfl⟩
    exact run_rt D
  | bottom =>
    simp only at k2
    have q := F_fold_ok (R := C) (C := R) (p := p) (ov := ov) (o := oT) (f := fun r c => f c r) .top (by omega) (by omega) (by omega) fun r c => hl _ _
    have x2 := F_exchanged_ok (R := C) (C := max p (R - p)) (f := fun r j => frG R p ov oT (fun c => f c r) (max p (R - p) - 1 - j)) (by omega) (by omega) (by omega)
    have a1 : gInT false (.str "bottom") (.tup [.str "right", .str "left"]) = some (.bl false) := by kernel_rfl
    have a2 : gEq (.str "bottom") (.str "bottom") = some (.bl true) := by kernel_rfl
    have D : den_one_fold [.sh (shP R C f), .sh (foldP (.bottom, p, ov)), .un, .un, .un, .un] = .rt (stepF ⟨R, C, f⟩ (.bottom, p, ov)).P [.sh (shP R C f), .sh (foldP (.bottom, p, ov)), .sh (.str "bottom"), .sh (.int (p : Int)), .sh (.str (ws ov)), .sh (shP C R fun r c => f c r)] := by
      unfold den_one_fold
      (apply sq_step; focus (simp [foldP, ss] <;> rfl))
      simp [a1, a2, x1, q, x2, szn (show 2 ≤ 1000000 by omega), k1, k2, hLen2]
      exact ⟨rfl, rfl⟩
    exact run_rt D
  | top =>
    simp only at k2
    have m2 := F_mirrored_ok (R := C) (C := R) (f := fun r c => f c r) (by omega)
    have q := F_fold_ok (R := C) (C := R) (p := R - p) (ov := ov) (o := oT) (f := fun r c => f (R - 1 - c) r) .top (by omega) (by omega) (by omega) fun r c => hl _ _
    have m3 := F_mirrored_ok (R := C) (C := max (R - p) (R - (R - p))) (f := fun r j => frG R (R - p) ov oT (fun c => f (R - 1 - c) r) (max (R - p) (R - (R - p)) - 1 - j)) (by omega)
    have x2 := F_exchanged_ok (R := C) (C := max (R - p) (R - (R - p))) (f := fun r j => frG R (R - p) ov oT (fun c => f (R - 1 - c) r) (max (R - p) (R - (R - p)) - 1 - (max (R - p) (R - (R - p)) - 1 - j))) (by omega) (by omega) (by omega)
    have a1 : gInT false (.str "top") (.tup [.str "right", .str "left"]) = some (.bl false) := by kernel_rfl
    have a2 : gEq (.str "top") (.str "bottom") = some (.bl false) := by kernel_rfl
    have a3 : (R : Int) - (p : Int) = ((R - p : Nat) : Int) := by omega
    have D : den_one_fold [.sh (shP R C f), .sh (foldP (.top, p, ov)), .un, .un, .un, .un] = .rt (stepF ⟨R, C, f⟩ (.top, p, ov)).P [.sh (shP R C f), .sh (foldP (.top, p, ov)), .sh (.str "top"), .sh (.int (p : Int)), .sh (.str (ws ov)), .sh (shP C R fun r c => f c r)] := by
      unfold den_one_fold
      (apply sq_step; focus (simp [foldP, ss] <;> rfl))
      simp [a1, a2, a3, x1, m2, q, m3, x2, szn (show 2 ≤ 1000000 by omega), k1, k2, hLen2]
      exact ⟨rfl, rfl⟩
    exact run_rt D
/-! ### all folds -/
def okAll : SS → List Fold → Prop
  | _, [] => True
  | t, x :: xs => okF t x ∧ okAll (stepF t x) xs
def runF : SS → List Fold → SS
  | t, [] => t
  | t, x :: xs => runF (stepF t x) xs
theorem is_fold_ok (x : Fold) : F_is_fold [foldP x] = .ok (.bl true) .non := by
  obtain ⟨s, p, ov⟩ := x
  have a1 : gInT true (.str (ss s)) c_SIDES = some (.bl false) := by cases s <;> kernel_rfl
  have a2 : gInT true (.str (ws ov)) c_WAYS = some (.bl false) := by cases ov <;> kernel_rfl
  have a3 : gIsi "tuple" (.tup [.str (ss s), .int (p : Int), .str (ws ov)]) = some (.bl true) := rfl
  have a4 : gIsi "int" (.int (p : Int)) = some (.bl true) := rfl
  have a5 : gIsi "bool" (.int (p : Int)) = some (.bl false) := rfl
  refine run_rt (env := [.sh (foldP (s, p, ov))]) (ρ := [.sh (foldP (s, p, ov))]) ?_
  simp [den_is_fold, foldP, a1, a2, a3, a4, a5, at0, at1, at2, truth]
def dimF (t : SS) : Side → Nat
  | .right => t.C
  | .left => t.C
  | .bottom => t.R
  | .top => t.R
theorem one_bad {t : SS} {s : Side} {q : Int} {z : PV} (h : Bd t) (k : ¬ (0 < q ∧ q < (dimF t s : Int))) : F_one_fold [t.P, .tup [.str (ss s), .int q, z]] = .ok .non .non := by
  obtain ⟨h1, h2, h3, h4⟩ := h
  obtain ⟨R, C, f⟩ := t
  simp only at h1 h2 h3 h4 k
  have i0 : L2.atI ((List.range R).map fun r => rowP C (f r)) 0 = some (rowP C (f 0)) := atI_map (i := 0) h2
  have hI : gIx (shP R C f) (.int 0) = some (rowP C (f 0)) := i0
  have hLen : gLen (rowP C (f 0)) = some (.int (C : Int)) := by simp [rowP]
  have hLen2 : gLen (shP R C f) = some (.int (R : Int)) := by simp [shP]
  have D : den_one_fold [.sh (shP R C f), .sh (.tup [.str (ss s), .int q, z]), .un, .un, .un, .un] = .rt .non [.sh (shP R C f), .sh (.tup [.str (ss s), .int q, z]), .sh (.str (ss s)), .sh (.int q), .sh z, .un] := by
    have b1 : gInT false (.str (ss .right)) (.tup [.str "right", .str "left"]) = some (.bl true) := by kernel_rfl
    have b2 : gInT false (.str (ss .left)) (.tup [.str "right", .str "left"]) = some (.bl true) := by kernel_rfl
    have b3 : gInT false (.str (ss .bottom)) (.tup [.str "right", .str "left"]) = some (.bl false) := by kernel_rfl
    have b4 : gInT false (.str (ss .top)) (.tup [.str "right", .str "left"]) = some (.bl false) := by kernel_rfl
    unfold den_one_fold
    (apply sq_step; focus (simp [] <;> rfl))
    by_cases hq : 0 < q
    · have kk : ¬ q < (dimF ⟨R, C, f⟩ s : Int) := fun z => k ⟨hq, z⟩
      cases s <;> simp only [dimF] at kk <;> simp [b1, b2, b3, b4, szn (show 2 ≤ 1000000 by omega), hq, kk, hI, hLen, hLen2]
    · cases s <;> simp [b1, b2, b3, b4, szn (show 2 ≤ 1000000 by omega), hq, hI, hLen, hLen2]
  exact run_rt D
def badFold (t : SS) (q : PV) : Prop := F_is_fold [q] = .ok (.bl false) .non ∨ (F_is_fold [q] = .ok (.bl true) .non ∧ F_one_fold [t.P, q] = .ok .non .non)
theorem all_loop {a0 a1 : PV} {tl : List PV} : ∀ (xs : List Fold) (t : SS) (s3 : Sl), Bd t → okAll t xs → ∃ s3', dLoop (gName 3) B_all_folds_1 (xs.map foldP ++ tl) [.sh a0, .sh a1, .sh t.P, s3] = dLoop (gName 3) B_all_folds_1 tl [.sh a0, .sh a1, .sh (runF t xs).P, s3'] ∧ Bd (runF t xs)
  | [], t, s3, h, _ => ⟨s3, rfl, h⟩
  | x :: xs, t, s3, h, k => by
    obtain ⟨s3', e, h'⟩ := all_loop (a0 := a0) (a1 := a1) (tl := tl) xs (stepF t x) (.sh (foldP x)) (h.step k.1) k.2
    refine ⟨s3', ?_, h'⟩
    have b : B_all_folds_1 [.sh a0, .sh a1, .sh t.P, .sh (foldP x)] = .nx [.sh a0, .sh a1, .sh (stepF t x).P, .sh (foldP x)] := by
      have n : gIsN false (stepF t x).P .non = some (.bl false) := rfl
      simp [B_all_folds_1, is_fold_ok, truth, F_one_ok h k.1, n]
    rw [List.map_cons, List.cons_append, dLoop]
    simp only [ap_gName, List.set_cons_succ, List.set_cons_zero, b]
    exact e
theorem F_all_ok {t : SS} {xs : List Fold} (h : Bd t) (k : okAll t xs) : F_all_folds [t.P, .lst (xs.map foldP)] = .ok (runF t xs).P .non := by
  obtain ⟨s3', e, _⟩ := all_loop (a0 := t.P) (a1 := .lst (xs.map foldP)) (tl := []) xs t .un h k
  rw [List.append_nil] at e
  refine run_rt (env := [.sh t.P, .sh (.lst (xs.map foldP)), .un, .un]) (ρ := [.sh t.P, .sh (.lst (xs.map foldP)), .sh (runF t xs).P, s3']) ?_
  unfold den_all_folds
  (apply sq_step; focus (simp [] <;> rfl))
  simp [e, dLoop]
theorem F_all_bad {t : SS} {xs : List Fold} {q : PV} (h : Bd t) (k : okAll t xs) (b : badFold (runF t xs) q) : F_all_folds [t.P, .lst (xs.map foldP ++ [q])] = .ok .non .non := by
  obtain ⟨s3', e, _⟩ := all_loop (a0 := t.P) (a1 := .lst (xs.map foldP ++ [q])) (tl := [q]) xs t .un h k
  refine run_rt (env := [.sh t.P, .sh (.lst (xs.map foldP ++ [q])), .un, .un]) (ρ := [.sh t.P, .sh (.lst (xs.map foldP ++ [q])), .sh .non, .sh q]) ?_
  have n : gIsN false .non .non = some (.bl true) := rfl
  have b' : dLoop (gName 3) B_all_folds_1 [q] [.sh t.P, .sh (.lst (xs.map foldP ++ [q])), .sh (runF t xs).P, s3'] = .rt .non [.sh t.P, .sh (.lst (xs.map foldP ++ [q])), .sh .non, .sh q] := by
    rcases b with b | ⟨b, b2⟩
    · simp [dLoop, B_all_folds_1, b, truth, n]
    · simp [dLoop, B_all_folds_1, b, b2, truth, n]
  unfold den_all_folds
  (apply sq_step; focus (simp [] <;> rfl))
  simp [e, b']
def t0 (R C : Nat) : SS := ⟨R, C, fun r c => [(r, c, true, false)]⟩
theorem Bd0 {R C : Nat} (h1 : 1 ≤ R) (h2 : 1 ≤ C) (h3 : R + C ≤ 9) : Bd (t0 R C) := ⟨h3, h1, h2, fun r c => Nat.one_le_two_pow⟩
theorem F_plain_eq2 {R C : Nat} (h1 : R ≤ 1000) (h2 : C ≤ 1000) : F_plain [.int (R : Int), .int (C : Int)] = .ok (t0 R C).P .non := by
  refine run_rt (env := [.sh (.int (R : Int)), .sh (.int (C : Int)), .un, .un]) (ρ := [.sh (.int (R : Int)), .sh (.int (C : Int)), .un, .un]) ?_
  unfold den_plain
  rw [ap_sRet, dLc_okR (n := R) (fun r => rowP C ((t0 R C).f r)) (by simp [rg1_nat (show R ≤ 1000000000 by omega)]) rfl (by omega)]
  · rfl
  · intro r _
    unfold E_plain_1
    rw [dLc_okR (n := C) (fun c => heapP ((t0 R C).f r c)) (by simp [rg1_nat (show C ≤ 1000000000 by omega)]) rfl (by omega)]
    · rfl
    · intro c _
      simp [E_plain_2, szn (show 4 ≤ 1000000 by omega), szn (show 1 ≤ 1000000 by omega), t0, heapP, leafP, fs]
theorem F_lplain_eq {R C : Nat} (h1 : R ≤ 1000) (h2 : C ≤ 1000) : F__law_plain_sheet [.int (R : Int), .int (C : Int)] = .ok (t0 R C).P .non := by
  refine run_rt (env := [.sh (.int (R : Int)), .sh (.int (C : Int)), .un, .un]) (ρ := [.sh (.int (R : Int)), .sh (.int (C : Int)), .un, .un]) ?_
  unfold den__law_plain_sheet
  rw [ap_sRet, dLc_okR (n := R) (fun r => rowP C ((t0 R C).f r)) (by simp [rg1_nat (show R ≤ 1000000000 by omega)]) rfl (by omega)]
  · rfl
  · intro r _
    unfold E__law_plain_sheet_1
    rw [dLc_okR (n := C) (fun c => heapP ((t0 R C).f r c)) (by simp [rg1_nat (show C ≤ 1000000000 by omega)]) rfl (by omega)]
    · rfl
    · intro c _
      simp [E__law_plain_sheet_2, szn (show 4 ≤ 1000000 by omega), szn (show 1 ≤ 1000000 by omega), t0, heapP, leafP, fs]
theorem F_check_ok {R C : Nat} (h1 : 1 ≤ R) (h2 : 1 ≤ C) (h3 : R * C ≤ 64) (h4 : C ≤ 1000) : F_check_size [.int (R : Int), .int (C : Int)] = .ok .non .non := by
  have e : ¬ (64 : Int) < (R : Int) * (C : Int) := by
    have : ((R * C : Nat) : Int) ≤ 64 := by omega
    rw [Int.natCast_mul] at this
    omega
  refine run_nx (env := [.sh (.int (R : Int)), .sh (.int (C : Int))]) (ρ := [.sh (.int (R : Int)), .sh (.int (C : Int))]) ?_
  simp [den_check_size, show ¬ (R : Int) < 1 by omega, show ¬ (C : Int) < 1 by omega, show R ≠ 0 by omega, show C ≠ 0 by omega, c_MOST_LEAVES, smI (i := (C : Int)) (by omega) (by omega), e]
def exS (z : Str) : Exn := ⟨"InvalidSheet", "what", .str z⟩
structure Dim (R C : Nat) : Prop where
  r : 1 ≤ R
  c : 1 ≤ C
  s : R + C ≤ 9
  m : R * C ≤ 64
theorem F_folded_ok {R C : Nat} {xs : List Fold} (h : Dim R C) (k : okAll (t0 R C) xs) : F_folded [.int (R : Int), .int (C : Int), .lst (xs.map foldP)] = .ok (runF (t0 R C) xs).P .non := by
  have n : gIsN false (runF (t0 R C) xs).P .non = some (.bl false) := rfl
  refine run_rt (env := [.sh (.int (R : Int)), .sh (.int (C : Int)), .sh (.lst (xs.map foldP)), .un]) (ρ := [.sh (.int (R : Int)), .sh (.int (C : Int)), .sh (.lst (xs.map foldP)), .sh (runF (t0 R C) xs).P]) ?_
  have q := h.s
  simp [den_folded, F_check_ok h.r h.c h.m (by omega), F_plain_eq2 (show R ≤ 1000 by omega) (show C ≤ 1000 by omega), F_all_ok (Bd0 h.r h.c h.s) k, n]
theorem F_folded_bad {R C : Nat} {xs : List Fold} {q : PV} (h : Dim R C) (k : okAll (t0 R C) xs) (b : badFold (runF (t0 R C) xs) q) : F_folded [.int (R : Int), .int (C : Int), .lst (xs.map foldP ++ [q])] = .exc (exS "fold") := by
  have n : gIsN false .non .non = some (.bl true) := rfl
  have l : ("fold" : Str).length ≤ 1000 := by decide +kernel
  refine run_exc (env := [.sh (.int (R : Int)), .sh (.int (C : Int)), .sh (.lst (xs.map foldP ++ [q])), .un]) (ρ := [.sh (.int (R : Int)), .sh (.int (C : Int)), .sh (.lst (xs.map foldP ++ [q])), .sh .non]) ?_
  have q := h.s
  simp [den_folded, F_check_ok h.r h.c h.m (by omega), F_plain_eq2 (show R ≤ 1000 by omega) (show C ≤ 1000 by omega), F_all_bad (Bd0 h.r h.c h.s) k b, n, l, exS]
theorem run_len {t : SS} : gLen t.P = some (.int (t.R : Int)) := by simp [SS.P, shP]
theorem run_row {t : SS} (h : 1 ≤ t.R) : gIx t.P (.int 0) = some (rowP t.C (t.f 0)) := atI_map (i := 0) h
theorem row_len {C : Nat} {f : Nat → List Leaf} : gLen (rowP C f) = some (.int (C : Int)) := by simp [rowP]
theorem row_at {C : Nat} {f : Nat → List Leaf} (h : 1 ≤ C) : gIx (rowP C f) (.int 0) = some (heapP (f 0)) := atI_map (i := 0) h
theorem runF_Bd : ∀ {xs : List Fold} {t : SS}, Bd t → okAll t xs → Bd (runF t xs)
  | [], _, h, _ => h
  | x :: xs, t, h, k => runF_Bd (xs := xs) (t := stepF t x) (h.step k.1) k.2
theorem F_heap_ok {R C : Nat} {xs : List Fold} (h : Dim R C) (k : okAll (t0 R C) xs) (e1 : (runF (t0 R C) xs).R = 1) (e2 : (runF (t0 R C) xs).C = 1) : F_heap_of [.int (R : Int), .int (C : Int), .lst (xs.map foldP)] = .ok (heapP ((runF (t0 R C) xs).f 0 0)) .non := by
  refine run_rt (env := [.sh (.int (R : Int)), .sh (.int (C : Int)), .sh (.lst (xs.map foldP)), .un]) (ρ := [.sh (.int (R : Int)), .sh (.int (C : Int)), .sh (.lst (xs.map foldP)), .sh (runF (t0 R C) xs).P]) ?_
  simp [den_heap_of, F_folded_ok h k, run_len, run_row (t := runF (t0 R C) xs) (by omega), row_len, row_at (C := 1) (by omega), e1, e2]
theorem F_heap_open {R C : Nat} {xs : List Fold} (h : Dim R C) (k : okAll (t0 R C) xs) (e : ¬ ((runF (t0 R C) xs).R = 1 ∧ (runF (t0 R C) xs).C = 1)) : F_heap_of [.int (R : Int), .int (C : Int), .lst (xs.map foldP)] = .exc (exS "open") := by
  have l : ("open" : Str).length ≤ 1000 := by decide +kernel
  have hb := runF_Bd (Bd0 h.r h.c h.s) k
  refine run_exc (env := [.sh (.int (R : Int)), .sh (.int (C : Int)), .sh (.lst (xs.map foldP)), .un]) (ρ := [.sh (.int (R : Int)), .sh (.int (C : Int)), .sh (.lst (xs.map foldP)), .sh (runF (t0 R C) xs).P]) ?_
  by_cases e1 : (runF (t0 R C) xs).R = 1
  · have e2 : (runF (t0 R C) xs).C ≠ 1 := fun z => e ⟨e1, z⟩
    have e3 : ¬ ((runF (t0 R C) xs).C : Int) = 1 := by omega
    simp [den_heap_of, F_folded_ok h k, run_len, run_row hb.r, row_len, e1, e2, e3, l, exS]
  · have e3 : ¬ ((runF (t0 R C) xs).R : Int) = 1 := by omega
    simp [den_heap_of, F_folded_ok h k, run_len, e1, e3, l, exS]
theorem F_heap_bad {R C : Nat} {xs : List Fold} {q : PV} (h : Dim R C) (k : okAll (t0 R C) xs) (b : badFold (runF (t0 R C) xs) q) : F_heap_of [.int (R : Int), .int (C : Int), .lst (xs.map foldP ++ [q])] = .exc (exS "fold") := by
  refine run_exc (env := [.sh (.int (R : Int)), .sh (.int (C : Int)), .sh (.lst (xs.map foldP ++ [q])), .un]) (ρ := [.sh (.int (R : Int)), .sh (.int (C : Int)), .sh (.lst (xs.map foldP ++ [q])), .un]) ?_
  simp [den_heap_of, F_folded_bad h k b]
theorem ref_fold {ask R C : Nat} {xs : List Fold} {q : PV} (h : Dim R C) (k : okAll (t0 R C) xs) (b : badFold (runF (t0 R C) xs) q) : F__law_refusal [.int (ask : Int), .int (R : Int), .int (C : Int), .lst (xs.map foldP ++ [q])] = .ok (.str "fold") .non := by
  have c1 : ([("InvalidSheet" : Str), ("TooMany" : Str)].contains "InvalidSheet") = true := by decide +kernel
  refine run_rt (env := [.sh (.int (ask : Int)), .sh (.int (R : Int)), .sh (.int (C : Int)), .sh (.lst (xs.map foldP ++ [q])), .un]) (ρ := [.sh (.int (ask : Int)), .sh (.int (R : Int)), .sh (.int (C : Int)), .sh (.lst (xs.map foldP ++ [q])), .un]) ?_
  by_cases ha : ask = 0
  · simp [den__law_refusal, sTry, ha, F_folded_bad h k b, exS]
  · simp [den__law_refusal, sTry, ha, F_heap_bad h k b, exS]
theorem ref_open {R C : Nat} {xs : List Fold} (h : Dim R C) (k : okAll (t0 R C) xs) (e : ¬ ((runF (t0 R C) xs).R = 1 ∧ (runF (t0 R C) xs).C = 1)) : F__law_refusal [.int 1, .int (R : Int), .int (C : Int), .lst (xs.map foldP)] = .ok (.str "open") .non := by
  refine run_rt (env := [.sh (.int 1), .sh (.int (R : Int)), .sh (.int (C : Int)), .sh (.lst (xs.map foldP)), .un]) (ρ := [.sh (.int 1), .sh (.int (R : Int)), .sh (.int (C : Int)), .sh (.lst (xs.map foldP)), .un]) ?_
  simp [den__law_refusal, sTry, F_heap_open h k e, exS]
/-! ### the law's dict -/
abbrev Dct := List ((Int × Int) × List Leaf)
def keyT (g : Int × Int) : PV := .tup [.int g.1, .int g.2]
def dctP (D : Dct) : PV := .dic true (D.map fun kv => keyT kv.1) (D.map fun kv => heapP kv.2)
def lookD : Dct → (Int × Int) → Option (List Leaf)
  | [], _ => none
  | kv :: r, g => if kv.1 = g then some kv.2 else lookD r g
def putD (D : Dct) (g : Int × Int) (h : List Leaf) : Dct := if (D.any fun kv => decide (kv.1 = g)) = true then D.map (fun kv => if kv.1 = g then (kv.1, h) else kv) else D ++ [(g, h)]
theorem kEq_T (a b : Int × Int) : kEq (keyT a) (keyT b) = decide (a = b) := by
  have e := kEq_keys [Sum.inl a.1, Sum.inl a.2] [Sum.inl b.1, Sum.inl b.2]
  obtain ⟨a1, a2⟩ := a
  obtain ⟨b1, b2⟩ := b
  simp only [keyT]
  refine Eq.trans e ?_
  simp
theorem look_P (g : Int × Int) : ∀ D : Dct, dLook (D.map fun kv => keyT kv.1) (D.map fun kv => heapP kv.2) (keyT g) = (lookD D g).map heapP
  | [] => rfl
  | kv :: r => by
    simp only [List.map_cons, dLook, lookD, kEq_T, look_P g r]
    by_cases h : kv.1 = g <;> simp [h]
theorem putVs_P (g : Int × Int) (h : List Leaf) : ∀ D : Dct, putVs (D.map fun kv => keyT kv.1) (D.map fun kv => heapP kv.2) (keyT g) (heapP h) = (D.map fun kv => if kv.1 = g then (kv.1, h) else kv).map fun kv => heapP kv.2
  | [] => rfl
  | kv :: r => by
    simp only [List.map_cons, putVs, kEq_T, putVs_P g h r]
    by_cases e : kv.1 = g <;> simp [e]
theorem put_P (D : Dct) (g : Int × Int) (h : List Leaf) : PV.dic true (dPutQ (D.map fun kv => keyT kv.1) (D.map fun kv => heapP kv.2) (keyT g) (heapP h)).1 (dPutQ (D.map fun kv => keyT kv.1) (D.map fun kv => heapP kv.2) (keyT g) (heapP h)).2 = dctP (putD D g h) := by
  have e : ((D.map fun kv => keyT kv.1).any fun k => kEq k (keyT g)) = D.any fun kv => decide (kv.1 = g) := by
    induction D with
    | nil => rfl
    | cons kv r ih => simp only [List.map_cons, List.any_cons, kEq_T, ih]
  unfold dPutQ putD
  rw [e]
  by_cases hz : (D.any fun kv => decide (kv.1 = g)) = true
  · rw [if_pos hz, if_pos hz, putVs_P]
    simp only [dctP, List.map_map]
    congr 1
    refine List.map_congr_left fun kv _ => ?_
    simp only [Function.comp]
    split <;> rfl
  · rw [if_neg hz, if_neg hz]
    simp [dctP]
theorem look_put (D : Dct) (g g' : Int × Int) (h : List Leaf) : lookD (putD D g h) g' = if g = g' then some h else lookD D g' := by
  unfold putD
  by_cases hz : (D.any fun kv => decide (kv.1 = g)) = true
  · rw [if_pos hz]
    induction D with
    | nil => cases hz
    | cons kv r ih =>
      simp only [List.map_cons, lookD]
      by_cases e : kv.1 = g
      · simp only [e, if_true]
        by_cases e2 : g = g'
        · simp [e2]
        · simp only [e2, if_false]
          by_cases hr : (r.any fun kv => decide (kv.1 = g)) = true
          · rw [ih hr, if_neg e2]
          · have hr2 : r.map (fun kv => if kv.1 = g then (kv.1, h) else kv) = r := by
              have : ∀ kv ∈ r, (if kv.1 = g then (kv.1, h) else kv) = kv := fun kv hk => by
                rw [if_neg]
                intro z
                exact hr (List.any_eq_true.mpr ⟨kv, hk, by simpa using z⟩)
              exact (List.map_congr_left this).trans (by simp)
            rw [hr2]
      · simp only [e, if_false]
        have hr : (r.any fun kv => decide (kv.1 = g)) = true := by simpa [e] using hz
        rw [ih hr]
        by_cases e2 : kv.1 = g'
        · subst e2
          rw [if_pos rfl, if_pos rfl, if_neg (fun z => e z.symm)]
        · rw [if_neg e2, if_neg e2]
  · rw [if_neg hz]
    induction D with
    | nil => simp [lookD]
    | cons kv r ih =>
      have e : ¬ kv.1 = g := fun z => hz (by simp [z])
      have hr : ¬ (r.any fun kv => decide (kv.1 = g)) = true := fun z => hz (by simp only [List.any_cons, z, Bool.or_true])
      simp only [List.cons_append, lookD, ih hr]
      by_cases e2 : kv.1 = g'
      · subst e2
        rw [if_pos rfl, if_pos rfl, if_neg (fun z => e z.symm)]
      · rw [if_neg e2, if_neg e2]
theorem put_len (D : Dct) (g : Int × Int) (h : List Leaf) : (putD D g h).length ≤ D.length + 1 := by
  unfold putD
  split <;> simp
/-! ### one cell -/
def mv (s : Side) (p r c : Nat) : Bool := match s with
  | .right => decide (p ≤ c)
  | .left => decide (c < p)
  | .bottom => decide (p ≤ r)
  | .top => decide (r < p)
def gl (s : Side) (p r c : Nat) : Int × Int := if mv s p r c then (match s with
  | .right => ((r : Int), 2 * (p : Int) - 1 - (c : Int))
  | .left => ((r : Int), 2 * (p : Int) - 1 - (c : Int))
  | .bottom => (2 * (p : Int) - 1 - (r : Int), (c : Int))
  | .top => (2 * (p : Int) - 1 - (r : Int), (c : Int))) else ((r : Int), (c : Int))
def oo : Side → Leaf → Leaf
  | .right => oS
  | .left => oS
  | .bottom => oT
  | .top => oT
def fl : Side → Bool
  | .right => false
  | .left => false
  | .bottom => true
  | .top => true
def cellH (t : SS) (s : Side) (p r c : Nat) : List Leaf := if mv s p r c then ((t.f r c).map (oo s)).reverse else t.f r c
def stepD (t : SS) (s : Side) (p : Nat) (ov : Bool) (D : Dct) (r c : Nat) : Dct :=
  let b := (lookD D (gl s p r c)).getD []
  putD D (gl s p r c) (if b.length = 0 then cellH t s p r c else if mv s p r c = ov then cellH t s p r c ++ b else b ++ cellH t s p r c)
theorem leaf_body {s : Side} {s0 s1 s2 s3 s4 s5 s6 s7 s8 s9 s10 s11 s18 s19 s20 : Sl} {done : List Leaf} {l : Leaf} (hd : done.length ≤ 2000) : B__law_one_fold_3 [s0, s1, s2, s3, s4, s5, s6, s7, s8, s9, s10, s11, .sh (.bl (fl s)), .ow (.lst (done.map leafP)), .sh (.int l.1), .sh (.int l.2.1), .sh (.str (fs l.2.2.1)), .sh (.bl l.2.2.2), s18, s19, s20] = .nx [s0, s1, s2, s3, s4, s5, s6, s7, s8, s9, s10, s11, .sh (.bl (fl s)), .ow (.lst ((done ++ [oo s l]).map leafP)), .sh (.int l.1), .sh (.int l.2.1), .sh (.str (fs l.2.2.1)), .sh (.bl l.2.2.2), s18, s19, s20] := by
  obtain ⟨r, c, f, tn⟩ := l
  have n1 : ∀ a b : Bool, gNe (.bl a) (.bl b) = some (.bl (a != b)) := by intro a b; cases a <;> cases b <;> kernel_rfl
  cases s <;> cases f <;> cases tn <;> simp [B__law_one_fold_3, fs_eq, n1, fl, oo, oS, oT, leafP, szn (show 4 ≤ 1000000 by omega), szl (show done.length ≤ 1000000 by omega)] <;> rfl
theorem leaf_loop {s : Side} {s0 s1 s2 s3 s4 s5 s6 s7 s8 s9 s10 s11 s18 s19 s20 : Sl} : ∀ (h done : List Leaf) (s14 s15 s16 s17 : Sl), done.length + h.length ≤ 2000 → ∃ t14 t15 t16 t17, dLoop (gTup (gsCons (gName 14) (gsCons (gName 15) (gsCons (gName 16) (gsCons (gName 17) gsNil))))) B__law_one_fold_3 (h.map leafP) [s0, s1, s2, s3, s4, s5, s6, s7, s8, s9, s10, s11, .sh (.bl (fl s)), .ow (.lst (done.map leafP)), s14, s15, s16, s17, s18, s19, s20] = .nx [s0, s1, s2, s3, s4, s5, s6, s7, s8, s9, s10, s11, .sh (.bl (fl s)), .ow (.lst ((done ++ h.map (oo s)).map leafP)), t14, t15, t16, t17, s18, s19, s20]
  | [], done, s14, s15, s16, s17, _ => ⟨s14, s15, s16, s17, by simp [dLoop]⟩
  | l :: h, done, s14, s15, s16, s17, hl => by
    rw [List.length_cons] at hl
    obtain ⟨t14, t15, t16, t17, e⟩ := leaf_loop h (done ++ [oo s l]) (.sh (.int l.1)) (.sh (.int l.2.1)) (.sh (.str (fs l.2.2.1))) (.sh (.bl l.2.2.2)) (by rw [List.length_append, List.length_singleton]; omega)
    refine ⟨t14, t15, t16, t17, ?_⟩
    have b := leaf_body (s := s) (s0 := s0) (s1 := s1) (s2 := s2) (s3 := s3) (s4 := s4) (s5 := s5) (s6 := s6) (s7 := s7) (s8 := s8) (s9 := s9) (s10 := s10) (s11 := s11) (s18 := s18) (s19 := s19) (s20 := s20) (done := done) (l := l) (by omega)
    rw [List.map_cons, dLoop]
    simp only [leafP, ap_gTup, ap_gsCons, ap_gName, ap_gsNil, Option.bind_some, List.set_cons_succ, List.set_cons_zero, b]
    rw [e, List.append_assoc]
    rfl
theorem turned_ok {s : Side} {s0 s2 s3 s4 s5 s6 s7 s8 s9 s10 s12 s13 s14 s15 s16 s17 s18 s19 s20 : Sl} (h : List Leaf) (hl : h.length ≤ 1000) : ∃ t12 t13 t14 t15 t16 t17, (sSeq (sSet 12 (d2 (gInT false) (dVar 1) (dTup (dCons (dC (.str ("bottom" : Str))) (dCons (dC (.str ("top" : Str))) dNil)))))
    (sSeq (sSetF 13 (dLst dNil))
    (sSeq (sFor (iSeq (dRevL (dVar 11))) (gTup (gsCons (gName 14) (gsCons (gName 15) (gsCons (gName 16) (gsCons (gName 17) gsNil))))) B__law_one_fold_3)
    (sSet 11 (dVar 13))))) [s0, .sh (.str (ss s)), s2, s3, s4, s5, s6, s7, s8, s9, s10, .sh (heapP h), s12, s13, s14, s15, s16, s17, s18, s19, s20] = .nx [s0, .sh (.str (ss s)), s2, s3, s4, s5, s6, s7, s8, s9, s10, .sh (heapP ((h.map (oo s)).reverse)), t12, t13, t14, t15, t16, t17, s18, s19, s20] := by
  obtain ⟨t14, t15, t16, t17, e⟩ := leaf_loop (s := s) (s0 := s0) (s1 := .sh (.str (ss s))) (s2 := s2) (s3 := s3) (s4 := s4) (s5 := s5) (s6 := s6) (s7 := s7) (s8 := s8) (s9 := s9) (s10 := s10) (s11 := .sh (heapP h)) (s18 := s18) (s19 := s19) (s20 := s20) h.reverse [] s14 s15 s16 s17 (by simp; omega)
  refine ⟨.sh (.bl (fl s)), .sh (heapP ((h.map (oo s)).reverse)), t14, t15, t16, t17, ?_⟩
  have a1 : gInT false (.str (ss s)) (.tup [.str "bottom", .str "top"]) = some (.bl (fl s)) := by cases s <;> kernel_rfl
  simp only [List.map_reverse, List.map_nil, List.nil_append] at e
  (apply sq_step; focus (simp [a1, szn (show 2 ≤ 1000000 by omega)] <;> rfl))
  (apply sq_step; focus (simp [szn] <;> rfl))
  apply sq_step
  · rw [ap_sFor]
    simp only [heapP, ap_iSeq, ap_dRevL, ap_dVar, List.getElem?_cons_succ, List.getElem?_cons_zero, bind_ok, ap_seqL, bindS_ok, opt_some]
    exact e
  simp [heapP]
def tailD : DenS :=
    (sSeq (sSet 11 (d2 gIx (d2 gIx (dVar 0) (dVar 7)) (dVar 8)))
    (sSeq (sIf (bTruV 9) (sSeq (sSet 12 (d2 (gInT false) (dVar 1) (dTup (dCons (dC (.str ("bottom" : Str))) (dCons (dC (.str ("top" : Str))) dNil)))))
    (sSeq (sSetF 13 (dLst dNil))
    (sSeq (sFor (iSeq (dRevL (dVar 11))) (gTup (gsCons (gName 14) (gsCons (gName 15) (gsCons (gName 16) (gsCons (gName 17) gsNil))))) B__law_one_fold_3)
    (sSet 11 (dVar 13))))) sNx)
    (sSeq (sSet 18 (dGet2v 6 (dVar 10) (dLst dNil)))
    (sIf (bVal (d2 gEq (dN gLenN (dCons (dVar 18) dNil)) (dC (.int 0)))) (sPutD 6 (dVar 10) (dVar 11)) (sIf (bVal (d2 gEq (dVar 9) (d2 gEq (dVar 3) (dC (.str ("over" : Str)))))) (sPutD 6 (dVar 10) (dAdd (dVar 11) (dVar 18))) (sPutD 6 (dVar 10) (dAdd (dVar 18) (dVar 11))))))))
theorem good_T (g : Int × Int) : kGood true (keyT g) = true := rfl
theorem bl_eq (a b : Bool) : gEq (.bl a) (.bl b) = some (.bl (a == b)) := by cases a <;> cases b <;> kernel_rfl
theorem cell_tail {t : SS} {s : Side} {ov : Bool} {D : Dct} {r c : Nat} {b : Bool} {g : Int × Int} {s2 s4 s5 s11 s12 s13 s14 s15 s16 s17 s18 s19 s20 : Sl} (hl : ∀ r c, (t.f r c).length ≤ 1000) (hr : r < t.R) (hc : c < t.C) (hD : D.length < 100000) (hv : ∀ g v, lookD D g = some v → v.length ≤ 100000) :
    ∃ t11 t12 t13 t14 t15 t16 t17 t18, tailD [.sh t.P, .sh (.str (ss s)), s2, .sh (.str (ws ov)), s4, s5, .ow (dctP D), .sh (.int (r : Int)), .sh (.int (c : Int)), .sh (.bl b), .sh (keyT g), s11, s12, s13, s14, s15, s16, s17, s18, s19, s20]
      = .nx [.sh t.P, .sh (.str (ss s)), s2, .sh (.str (ws ov)), s4, s5, .ow (dctP (putD D g (if ((lookD D g).getD []).length = 0 then (if b then ((t.f r c).map (oo s)).reverse else t.f r c) else if b = ov then (if b then ((t.f r c).map (oo s)).reverse else t.f r c) ++ (lookD D g).getD [] else (lookD D g).getD [] ++ (if b then ((t.f r c).map (oo s)).reverse else t.f r c)))), .sh (.int (r : Int)), .sh (.int (c : Int)), .sh (.bl b), .sh (keyT g), t11, t12, t13, t14, t15, t16, t17, t18, s19, s20] := by
  obtain ⟨bf, hbf⟩ : ∃ bf, bf = (lookD D g).getD [] := ⟨_, rfl⟩
  have lb : bf.length ≤ 100000 := by
    rw [hbf]
    cases e : lookD D g with
    | none => simp
    | some v => exact hv g v e
  have lk2 : (dLook (D.map fun kv => keyT kv.1) (D.map fun kv => heapP kv.2) (keyT g)).getD (PV.lst []) = heapP bf := by
    rw [look_P, hbf]
    cases lookD D g <;> rfl
  rw [← hbf]
  have i1 : L2.atI ((List.range t.R).map fun r => rowP t.C (t.f r)) (r : Int) = some (rowP t.C (t.f r)) := atI_map hr
  have i1 : gIx t.P (.int (r : Int)) = some (rowP t.C (t.f r)) := i1
  have i2 : gIx (rowP t.C (t.f r)) (.int (c : Int)) = some (heapP (t.f r c)) := atI_map hc
  obtain ⟨H, hH⟩ : ∃ H, H = if b then ((t.f r c).map (oo s)).reverse else t.f r c := ⟨_, rfl⟩
  have lH : H.length ≤ 1000 := by rw [hH]; split <;> simp [hl]
  obtain ⟨t12, t13, t14, t15, t16, t17, e⟩ : ∃ t12 t13 t14 t15 t16 t17, (sIf (bTruV 9) (sSeq (sSet 12 (d2 (gInT false) (dVar 1) (dTup (dCons (dC (.str ("bottom" : Str))) (dCons (dC (.str ("top" : Str))) dNil)))))
    (sSeq (sSetF 13 (dLst dNil))
    (sSeq (sFor (iSeq (dRevL (dVar 11))) (gTup (gsCons (gName 14) (gsCons (gName 15) (gsCons (gName 16) (gsCons (gName 17) gsNil))))) B__law_one_fold_3)
    (sSet 11 (dVar 13))))) sNx) [.sh t.P, .sh (.str (ss s)), s2, .sh (.str (ws ov)), s4, s5, .ow (dctP D), .sh (.int (r : Int)), .sh (.int (c : Int)), .sh (.bl b), .sh (keyT g), .sh (heapP (t.f r c)), s12, s13, s14, s15, s16, s17, s18, s19, s20] = .nx [.sh t.P, .sh (.str (ss s)), s2, .sh (.str (ws ov)), s4, s5, .ow (dctP D), .sh (.int (r : Int)), .sh (.int (c : Int)), .sh (.bl b), .sh (keyT g), .sh (heapP H), t12, t13, t14, t15, t16, t17, s18, s19, s20] := by
    cases b with
    | false =>
      refine ⟨s12, s13, s14, s15, s16, s17, ?_⟩
      simp [truth, hH]
    | true =>
      obtain ⟨t12, t13, t14, t15, t16, t17, e⟩ := turned_ok (s := s) (s0 := .sh t.P) (s2 := s2) (s3 := .sh (.str (ws ov))) (s4 := s4) (s5 := s5) (s6 := .ow (dctP D)) (s7 := .sh (.int (r : Int))) (s8 := .sh (.int (c : Int))) (s9 := .sh (.bl true)) (s10 := .sh (keyT g)) (s12 := s12) (s13 := s13) (s14 := s14) (s15 := s15) (s16 := s16) (s17 := s17) (s18 := s18) (s19 := s19) (s20 := s20) (t.f r c) (hl _ _)
      refine ⟨t12, t13, t14, t15, t16, t17, ?_⟩
      rw [ap_sIf]
      simp only [ap_bTruV, ap_slot, List.getElem?_cons_succ, List.getElem?_cons_zero, pv_sh, truth, opt_some, bindS_ok, if_true]
      rw [e, hH]
      rfl
  rw [← hH]
  refine ⟨.sh (heapP H), t12, t13, t14, t15, t16, t17, .sh (heapP bf), ?_⟩
  unfold tailD
  (apply sq_step; focus (simp [i1, i2] <;> rfl))
  rw [seq_nx e]
  have lkd : gDG2 (dctP D) (keyT g) (.lst []) = some (heapP bf) := by simp only [dctP, gDG2, good_T, if_true, lk2]
  have S9 : sSet 18 (dGet2v 6 (dVar 10) (dLst dNil)) [.sh t.P, .sh (.str (ss s)), s2, .sh (.str (ws ov)), s4, s5, .ow (dctP D), .sh (.int (r : Int)), .sh (.int (c : Int)), .sh (.bl b), .sh (keyT g), .sh (heapP H), t12, t13, t14, t15, t16, t17, s18, s19, s20] = .nx [.sh t.P, .sh (.str (ss s)), s2, .sh (.str (ws ov)), s4, s5, .ow (dctP D), .sh (.int (r : Int)), .sh (.int (c : Int)), .sh (.bl b), .sh (keyT g), .sh (heapP H), t12, t13, t14, t15, t16, t17, .sh (heapP bf), s19, s20] := by
    simp [dGet2v, dctP, szn (show 0 ≤ 1000000 by omega)]
    simp [show (gDG2 (.dic true (D.map fun kv => keyT kv.1) (D.map fun kv => heapP kv.2)) (keyT g) (.lst [])) = some (heapP bf) from lkd]
  rw [seq_nx S9]
  have put : ∀ (da : Den) (X : List Leaf), da [.sh t.P, .sh (.str (ss s)), s2, .sh (.str (ws ov)), s4, s5, .ow (dctP D), .sh (.int (r : Int)), .sh (.int (c : Int)), .sh (.bl b), .sh (keyT g), .sh (heapP H), t12, t13, t14, t15, t16, t17, .sh (heapP bf), s19, s20] = .ok (heapP X) [.sh t.P, .sh (.str (ss s)), s2, .sh (.str (ws ov)), s4, s5, .ow (dctP D), .sh (.int (r : Int)), .sh (.int (c : Int)), .sh (.bl b), .sh (keyT g), .sh (heapP H), t12, t13, t14, t15, t16, t17, .sh (heapP bf), s19, s20] → sPutD 6 (dVar 10) da [.sh t.P, .sh (.str (ss s)), s2, .sh (.str (ws ov)), s4, s5, .ow (dctP D), .sh (.int (r : Int)), .sh (.int (c : Int)), .sh (.bl b), .sh (keyT g), .sh (heapP H), t12, t13, t14, t15, t16, t17, .sh (heapP bf), s19, s20] = .nx [.sh t.P, .sh (.str (ss s)), s2, .sh (.str (ws ov)), s4, s5, .ow (dctP (putD D g X)), .sh (.int (r : Int)), .sh (.int (c : Int)), .sh (.bl b), .sh (keyT g), .sh (heapP H), t12, t13, t14, t15, t16, t17, .sh (heapP bf), s19, s20] := by
    intro da X hda
    have e1 := put_P D g X
    simp only [dctP, PV.dic.injEq] at e1
    rw [ap_sPutD, hda]
    simp [dctP, good_T, hD]
    exact ⟨e1.2.1, e1.2.2⟩
  have g1 : gLenN [heapP bf] = some (.int (bf.length : Int)) := by simp [heapP]
  have g2 : gAdd (heapP H) (heapP bf) = some (heapP (H ++ bf)) := by simp [heapP, szn (show H.length + bf.length ≤ 1000000 by omega)]
  have g3 : gAdd (heapP bf) (heapP H) = some (heapP (bf ++ H)) := by simp [heapP, szn (show bf.length + H.length ≤ 1000000 by omega)]
  have p1 := put (dVar 11) H (by simp)
  have p2 := put (dAdd (dVar 11) (dVar 18)) (H ++ bf) (by simp [g2])
  have p3 := put (dAdd (dVar 18) (dVar 11)) (bf ++ H) (by simp [g3])
  by_cases hz : bf.length = 0
  · rw [if_pos hz]
    rw [ap_sIf]
    simp only [ap_bVal, ap_d2, ap_dN, ap_dCons, ap_dNil, ap_dVar, ap_dC, List.getElem?_cons_succ, List.getElem?_cons_zero, bind_ok, bindS_ok, g1, opt_some, ap_eqI, ap_bool, hz, p1]
    simp
  · rw [if_neg hz]
    rw [ap_sIf]
    have hz2 : ¬ (bf.length : Int) = 0 := by omega
    simp only [ap_bVal, ap_d2, ap_dN, ap_dCons, ap_dNil, ap_dVar, ap_dC, List.getElem?_cons_succ, List.getElem?_cons_zero, bind_ok, bindS_ok, g1, opt_some, ap_eqI, ap_bool, hz2, decide_false, Bool.false_eq_true, if_false, ap_sIf, ws_eq, bl_eq]
    by_cases hb : b = ov
    · rw [if_pos hb]
      simp only [hb, beq_self_eq_true, if_true]
      rw [hb] at p2
      exact p2
    · rw [if_neg hb]
      have : (b == ov) = false := by simpa using hb
      simp only [this, Bool.false_eq_true, if_false]
      exact p3
theorem side_eq (s : Side) : gEq (.str (ss s)) (.str "right") = some (.bl (decide (s = .right))) ∧ gEq (.str (ss s)) (.str "left") = some (.bl (decide (s = .left))) ∧ gEq (.str (ss s)) (.str "bottom") = some (.bl (decide (s = .bottom))) ∧ gEq (.str (ss s)) (.str "top") = some (.bl (decide (s = .top))) := by
  cases s <;> exact ⟨by kernel_rfl, by kernel_rfl, by kernel_rfl, by kernel_rfl⟩
theorem cell_head {s : Side} {p r c : Nat} {s0 s3 s4 s5 s6 s9 s10 s11 s12 s13 s14 s15 s16 s17 s18 s19 s20 : Sl} :
    B__law_one_fold_2 [s0, .sh (.str (ss s)), .sh (.int (p : Int)), s3, s4, s5, s6, .sh (.int (r : Int)), .sh (.int (c : Int)), s9, s10, s11, s12, s13, s14, s15, s16, s17, s18, s19, s20]
      = tailD [s0, .sh (.str (ss s)), .sh (.int (p : Int)), s3, s4, s5, s6, .sh (.int (r : Int)), .sh (.int (c : Int)), .sh (.bl (mv s p r c)), .sh (keyT (gl s p r c)), s11, s12, s13, s14, s15, s16, s17, s18, s19, s20] := by
  obtain ⟨q1, q2, q3, q4⟩ := side_eq s
  have z2 := szn (show 2 ≤ 1000000 by omega)
  have m2 := smI (i := 2) (by omega) (by omega)
  obtain ⟨b, hb⟩ : ∃ b, b = mv s p r c := ⟨_, rfl⟩
  obtain ⟨g, hg⟩ : ∃ g, g = gl s p r c := ⟨_, rfl⟩
  rw [← hb, ← hg]
  cases s with
  | right =>
    by_cases hm : p ≤ c
    · have hb : b = true := by rw [hb]; simp [mv, hm]
      have hg : g = ((r : Int), 2 * (p : Int) - 1 - (c : Int)) := by rw [hg]; simp [gl, mv, hm]
      subst hb hg
      unfold B__law_one_fold_2
      (apply sq_step; focus (simp [] <;> rfl))
      (apply sq_step; focus (simp [z2] <;> rfl))
      (apply sq_step; focus (simp [q1, q2, q3, q4, hm, z2, m2] <;> rfl))
      (apply sq_step; focus (simp [q1, q2, q3, q4, hm, z2, m2] <;> rfl))
      (apply sq_step; focus (simp [q1, q2, q3, q4, hm, z2, m2] <;> rfl))
      (apply sq_step; focus (simp [q1, q2, q3, q4, hm, z2, m2] <;> rfl))
      rfl
    · have hb : b = false := by rw [hb]; simp [mv, hm]
      have hg : g = ((r : Int), (c : Int)) := by rw [hg]; simp [gl, mv, hm]
      subst hb hg
      unfold B__law_one_fold_2
      (apply sq_step; focus (simp [] <;> rfl))
      (apply sq_step; focus (simp [z2] <;> rfl))
      (apply sq_step; focus (simp [q1, q2, q3, q4, hm, z2, m2] <;> rfl))
      (apply sq_step; focus (simp [q1, q2, q3, q4, hm, z2, m2] <;> rfl))
      (apply sq_step; focus (simp [q1, q2, q3, q4, hm, z2, m2] <;> rfl))
      (apply sq_step; focus (simp [q1, q2, q3, q4, hm, z2, m2] <;> rfl))
      rfl
  | left =>
    by_cases hm : c < p
    · have hb : b = true := by rw [hb]; simp [mv, hm]
      have hg : g = ((r : Int), 2 * (p : Int) - 1 - (c : Int)) := by rw [hg]; simp [gl, mv, hm]
      subst hb hg
      unfold B__law_one_fold_2
      (apply sq_step; focus (simp [] <;> rfl))
      (apply sq_step; focus (simp [z2] <;> rfl))
      (apply sq_step; focus (simp [q1, q2, q3, q4, hm, z2, m2] <;> rfl))
      (apply sq_step; focus (simp [q1, q2, q3, q4, hm, z2, m2] <;> rfl))
      (apply sq_step; focus (simp [q1, q2, q3, q4, hm, z2, m2] <;> rfl))
      (apply sq_step; focus (simp [q1, q2, q3, q4, hm, z2, m2] <;> rfl))
      rfl
    · have hb : b = false := by rw [hb]; simp [mv, hm]
      have hg : g = ((r : Int), (c : Int)) := by rw [hg]; simp [gl, mv, hm]
      subst hb hg
      unfold B__law_one_fold_2
      (apply sq_step; focus (simp [] <;> rfl))
      (apply sq_step; focus (simp [z2] <;> rfl))
      (apply sq_step; focus (simp [q1, q2, q3, q4, hm, z2, m2] <;> rfl))
      (apply sq_step; focus (simp [q1, q2, q3, q4, hm, z2, m2] <;> rfl))
      (apply sq_step; focus (simp [q1, q2, q3, q4, hm, z2, m2] <;> rfl))
      (apply sq_step; focus (simp [q1, q2, q3, q4, hm, z2, m2] <;> rfl))
      rfl
  | bottom =>
    by_cases hm : p ≤ r
    · have hb : b = true := by rw [hb]; simp [mv, hm]
      have hg : g = (2 * (p : Int) - 1 - (r : Int), (c : Int)) := by rw [hg]; simp [gl, mv, hm]
      subst hb hg
      unfold B__law_one_fold_2
      (apply sq_step; focus (simp [] <;> rfl))
      (apply sq_step; focus (simp [z2] <;> rfl))
      (apply sq_step; focus (simp [q1, q2, q3, q4, hm, z2, m2] <;> rfl))
      (apply sq_step; focus (simp [q1, q2, q3, q4, hm, z2, m2] <;> rfl))
      (apply sq_step; focus (simp [q1, q2, q3, q4, hm, z2, m2] <;> rfl))
      (apply sq_step; focus (simp [q1, q2, q3, q4, hm, z2, m2] <;> rfl))
      rfl
    · have hb : b = false := by rw [hb]; simp [mv, hm]
      have hg : g = ((r : Int), (c : Int)) := by rw [hg]; simp [gl, mv, hm]
      subst hb hg
      unfold B__law_one_fold_2
      (apply sq_step; focus (simp [] <;> rfl))
      (apply sq_step; focus (simp [z2] <;> rfl))
      (apply sq_step; focus (simp [q1, q2, q3, q4, hm, z2, m2] <;> rfl))
      (apply sq_step; focus (simp [q1, q2, q3, q4, hm, z2, m2] <;> rfl))
      (apply sq_step; focus (simp [q1, q2, q3, q4, hm, z2, m2] <;> rfl))
      (apply sq_step; focus (simp [q1, q2, q3, q4, hm, z2, m2] <;> rfl))
      rfl
  | top =>
    by_cases hm : r < p
    · have hb : b = true := by rw [hb]; simp [mv, hm]
      have hg : g = (2 * (p : Int) - 1 - (r : Int), (c : Int)) := by rw [hg]; simp [gl, mv, hm]
      subst hb hg
      unfold B__law_one_fold_2
      (apply sq_step; focus (simp [] <;> rfl))
      (apply sq_step; focus (simp [z2] <;> rfl))
      (apply sq_step; focus (simp [q1, q2, q3, q4, hm, z2, m2] <;> rfl))
      (apply sq_step; focus (simp [q1, q2, q3, q4, hm, z2, m2] <;> rfl))
      (apply sq_step; focus (simp [q1, q2, q3, q4, hm, z2, m2] <;> rfl))
      (apply sq_step; focus (simp [q1, q2, q3, q4, hm, z2, m2] <;> rfl))
      rfl
    · have hb : b = false := by rw [hb]; simp [mv, hm]
      have hg : g = ((r : Int), (c : Int)) := by rw [hg]; simp [gl, mv, hm]
      subst hb hg
      unfold B__law_one_fold_2
      (apply sq_step; focus (simp [] <;> rfl))
      (apply sq_step; focus (simp [z2] <;> rfl))
      (apply sq_step; focus (simp [q1, q2, q3, q4, hm, z2, m2] <;> rfl))
      (apply sq_step; focus (simp [q1, q2, q3, q4, hm, z2, m2] <;> rfl))
      (apply sq_step; focus (simp [q1, q2, q3, q4, hm, z2, m2] <;> rfl))
      (apply sq_step; focus (simp [q1, q2, q3, q4, hm, z2, m2] <;> rfl))
      rfl
/-! ### what the dict holds -/
section
variable (t : SS) (s : Side) (p : Nat) (ov : Bool)
def isSrc (Q : Nat → Nat → Prop) (b : Bool) (g : Int × Int) : Option (Nat × Nat) → Prop
  | some x => Q x.1 x.2 ∧ mv s p x.1 x.2 = b ∧ gl s p x.1 x.2 = g
  | none => ∀ r c, Q r c → mv s p r c = b → gl s p r c ≠ g
def both : Option (Nat × Nat) → Option (Nat × Nat) → Option (List Leaf)
  | none, none => none
  | some u, none => some (t.f u.1 u.2)
  | none, some v => some (((t.f v.1 v.2).map (oo s)).reverse)
  | some u, some v => some (comb ov (((t.f v.1 v.2).map (oo s)).reverse) (t.f u.1 u.2))
def Sp (Q : Nat → Nat → Prop) (g : Int × Int) (o : Option (List Leaf)) : Prop := ∃ U M, isSrc s p Q false g U ∧ isSrc s p Q true g M ∧ o = both t s ov U M
end
section
variable {t : SS} {s : Side} {p : Nat} {ov : Bool}
theorem gl_inj {r c r' c' : Nat} (h1 : mv s p r c = mv s p r' c') (h2 : gl s p r c = gl s p r' c') : r = r' ∧ c = c' := by
  unfold gl at h2
  rw [h1] at h2
  cases e : mv s p r' c' with
  | false =>
    simp only [e, Bool.false_eq_true, if_false, Prod.mk.injEq] at h2
    omega
  | true =>
    simp only [e, if_true] at h2
    cases s <;> simp only [Prod.mk.injEq] at h2 <;> omega
theorem Sp.empty (g : Int × Int) : Sp t s p ov (fun _ _ => False) g (lookD [] g) := ⟨none, none, fun _ _ h => h.elim, fun _ _ h => h.elim, rfl⟩
theorem cmb (b ov : Bool) (H bf : List Leaf) : (if bf.length = 0 then H else if b = ov then H ++ bf else bf ++ H) = if b then comb ov H bf else comb ov bf H := by
  by_cases hz : bf.length = 0
  · have hz2 := List.length_eq_zero_iff.mp hz
    subst hz2
    cases b <;> cases ov <;> simp [comb]
  · rw [if_neg hz]
    cases b <;> cases ov <;> simp [comb]
theorem Sp.step {Q Q' : Nat → Nat → Prop} {D : Dct} {r c : Nat} (h : ∀ g, Sp t s p ov Q g (lookD D g)) (hn : ¬ Q r c) (hQ : ∀ a b, Q' a b ↔ Q a b ∨ (a = r ∧ b = c)) (g : Int × Int) : Sp t s p ov Q' g (lookD (stepD t s p ov D r c) g) := by
  obtain ⟨U, M, hU, hM, e⟩ := h g
  have grow : ∀ b O, isSrc s p Q b g O → (gl s p r c = g → mv s p r c ≠ b) → isSrc s p Q' b g O := by
    intro b O hO hne
    cases O with
    | some x => exact ⟨(hQ _ _).mpr (.inl hO.1), hO.2⟩
    | none =>
      intro a d hq hb hg
      rcases (hQ a d).mp hq with z | ⟨rfl, rfl⟩
      · exact hO a d z hb hg
      · exact hne hg hb
  unfold stepD
  rw [look_put]
  by_cases hg : gl s p r c = g
  · rw [if_pos hg, hg, e]
    have fresh : ∀ b O, isSrc s p Q b g O → mv s p r c = b → O = none := by
      intro b O hO hb
      cases O with
      | none => rfl
      | some x =>
        obtain ⟨x1, x2, x3⟩ := hO
        obtain ⟨rfl, rfl⟩ := gl_inj (s := s) (p := p) (r := x.1) (c := x.2) (r' := r) (c' := c) (x2.trans hb.symm) (x3.trans hg.symm)
        exact (hn x1).elim
    cases hb : mv s p r c with
    | false =>
      have hU0 := fresh false U hU hb
      subst hU0
      refine ⟨some (r, c), M, ⟨(hQ r c).mpr (.inr ⟨rfl, rfl⟩), hb, hg⟩, grow true M hM (fun _ z => by rw [hb] at z; cases z), ?_⟩
      have hc : cellH t s p r c = t.f r c := by unfold cellH; rw [hb]; rfl
      rw [hc]
      rw [cmb]
      cases M with
      | none => cases ov <;> simp [both, comb]
      | some v => rfl
    | true =>
      have hM0 := fresh true M hM hb
      subst hM0
      refine ⟨U, some (r, c), grow false U hU (fun _ z => by rw [hb] at z; cases z), ⟨(hQ r c).mpr (.inr ⟨rfl, rfl⟩), hb, hg⟩, ?_⟩
      have hc : cellH t s p r c = ((t.f r c).map (oo s)).reverse := by unfold cellH; rw [hb]; rfl
      rw [hc]
      rw [cmb]
      cases U with
      | none => cases ov <;> simp [both, comb]
      | some u => rfl
  · rw [if_neg hg]
    exact ⟨U, M, grow false U hU fun z => (hg z).elim, grow true M hM fun z => (hg z).elim, e⟩
/-- the sources are known -/
theorem Sp.val {Q : Nat → Nat → Prop} {g : Int × Int} {o : Option (List Leaf)} (h : Sp t s p ov Q g o) {U M : Option (Nat × Nat)} (hU : isSrc s p Q false g U) (hM : isSrc s p Q true g M) : o = both t s ov U M := by
  obtain ⟨U', M', hU', hM', e⟩ := h
  have uniq : ∀ b O O', isSrc s p Q b g O → isSrc s p Q b g O' → O = O' := by
    intro b O O' h h'
    cases O with
    | none =>
      cases O' with
      | none => rfl
      | some x => exact (h x.1 x.2 h'.1 h'.2.1 h'.2.2).elim
    | some x =>
      cases O' with
      | none => exact (h' x.1 x.2 h.1 h.2.1 h.2.2).elim
      | some y =>
        obtain ⟨e1, e2⟩ := gl_inj (s := s) (p := p) (h.2.1.trans h'.2.1.symm) (h.2.2.trans h'.2.2.symm)
        obtain ⟨a, b⟩ := x
        obtain ⟨c, d⟩ := y
        simp only at e1 e2
        subst e1 e2
        rfl
  rw [e, uniq false U U' hU hU', uniq true M M' hM hM']
theorem Sp.some_iff {Q : Nat → Nat → Prop} {g : Int × Int} {o : Option (List Leaf)} (h : Sp t s p ov Q g o) : o ≠ none ↔ ∃ r c, Q r c ∧ gl s p r c = g := by
  obtain ⟨U, M, hU, hM, e⟩ := h
  constructor
  · intro ho
    cases U with
    | some u => exact ⟨u.1, u.2, hU.1, hU.2.2⟩
    | none =>
      cases M with
      | some v => exact ⟨v.1, v.2, hM.1, hM.2.2⟩
      | none => exact (ho e).elim
  · rintro ⟨r, c, hq, hg⟩
    rw [e]
    cases U with
    | some u => cases M <;> simp [both]
    | none =>
      cases M with
      | some v => simp [both]
      | none =>
        cases hb : mv s p r c with
        | false => exact (hU r c hq hb hg).elim
        | true => exact (hM r c hq hb hg).elim
end
theorem look_mem {D : Dct} {g : Int × Int} : lookD D g ≠ none ↔ ∃ kv ∈ D, kv.1 = g := by
  induction D with
  | nil => simp [lookD]
  | cons kv r ih =>
    simp only [lookD]
    by_cases h : kv.1 = g
    · simp [h]
    · rw [if_neg h, ih]
      simp [h]
structure SzD (D : Dct) (k : Nat) : Prop where
  n : D.length ≤ k
  v : ∀ g v, lookD D g = some v → v.length ≤ 1000 * k
theorem SzD.step {t : SS} {s : Side} {p : Nat} {ov : Bool} {D : Dct} {k r c : Nat} (h : SzD D k) (hl : ∀ r c, (t.f r c).length ≤ 1000) : SzD (stepD t s p ov D r c) (k + 1) := by
  have lc : (cellH t s p r c).length ≤ 1000 := by unfold cellH; split <;> simp [hl]
  have lb : ((lookD D (gl s p r c)).getD []).length ≤ 1000 * k := by
    cases e : lookD D (gl s p r c) with
    | none => simp
    | some v => exact h.v _ _ e
  refine ⟨?_, fun g v e => ?_⟩
  · exact Nat.le_trans (put_len _ _ _) (by have := h.n; omega)
  · unfold stepD at e
    rw [look_put] at e
    split at e
    · cases e
      split
      · omega
      · split <;> rw [List.length_append] <;> omega
    · have := h.v _ _ e
      omega
def leE (t : SS) (s : Side) (p : Nat) (ov : Bool) (D : Dct) (s7 s8 s9 s10 s11 s12 s13 s14 s15 s16 s17 s18 : Sl) : Env := [.sh t.P, .sh (.str (ss s)), .sh (.int (p : Int)), .sh (.str (ws ov)), .sh (.int (t.R : Int)), .sh (.int (t.C : Int)), .ow (dctP D), s7, s8, s9, s10, s11, s12, s13, s14, s15, s16, s17, s18, .un, .un]
theorem cols_loop {t : SS} {s : Side} {p : Nat} {ov : Bool} {D : Dct} {r : Nat} (hl : ∀ r c, (t.f r c).length ≤ 1000) (hr : r < t.R) (hRC : t.R * t.C ≤ 64) (hC : t.C ≤ 8) (inv : ∀ g, Sp t s p ov (fun a b => b < t.C ∧ a < r) g (lookD D g)) (sz : SzD D (r * t.C)) {s8 s9 s10 s11 s12 s13 s14 s15 s16 s17 s18 : Sl} :
    ∃ (D' : Dct) (t8 t9 t10 t11 t12 t13 t14 t15 t16 t17 t18 : Sl), B__law_one_fold_1 (leE t s p ov D (.sh (.int (r : Int))) s8 s9 s10 s11 s12 s13 s14 s15 s16 s17 s18) = .nx (leE t s p ov D' (.sh (.int (r : Int))) t8 t9 t10 t11 t12 t13 t14 t15 t16 t17 t18) ∧ (∀ g, Sp t s p ov (fun a b => b < t.C ∧ a < r + 1) g (lookD D' g)) ∧ SzD D' ((r + 1) * t.C) ∧ (1 ≤ t.C → ∃ q, t8 = .sh q) := by
  have hk : (r + 1) * t.C ≤ 64 := Nat.le_trans (Nat.mul_le_mul_right _ hr) hRC
  rw [Nat.succ_mul] at hk
  obtain ⟨ρ, k1, D', t8, t9, t10, t11, t12, t13, t14, t15, t16, t17, t18, k2, k3, k4, k5⟩ := dLoop_inv (tgt := gName 8) (body := B__law_one_fold_2) (items := rangeP 0 t.C) (ρ0 := leE t s p ov D (.sh (.int (r : Int))) s8 s9 s10 s11 s12 s13 s14 s15 s16 s17 s18)
    (fun i ρ => ∃ (D : Dct) (s8 s9 s10 s11 s12 s13 s14 s15 s16 s17 s18 : Sl), ρ = leE t s p ov D (.sh (.int (r : Int))) s8 s9 s10 s11 s12 s13 s14 s15 s16 s17 s18 ∧ (∀ g, Sp t s p ov (fun a b => b < t.C ∧ (a < r ∨ (a = r ∧ b < i))) g (lookD D g)) ∧ SzD D (r * t.C + i) ∧ (1 ≤ i → ∃ q, s8 = .sh q))
    (fun i x ρ hx hi => by
      obtain ⟨hie, rfl⟩ := rangeP_get hx
      obtain ⟨D, s8, s9, s10, s11, s12, s13, s14, s15, s16, s17, s18, rfl, inv, sz, _⟩ := hi
      obtain ⟨t11, t12, t13, t14, t15, t16, t17, t18, e⟩ := cell_tail (t := t) (s := s) (ov := ov) (D := D) (r := r) (c := i) (b := mv s p r i) (g := gl s p r i) (s2 := .sh (.int (p : Int))) (s4 := .sh (.int (t.R : Int))) (s5 := .sh (.int (t.C : Int))) (s11 := s11) (s12 := s12) (s13 := s13) (s14 := s14) (s15 := s15) (s16 := s16) (s17 := s17) (s18 := s18) (s19 := .un) (s20 := .un) hl hr hie (by have := sz.n; omega) (fun g v h => by have := sz.v g v h; omega)
      rw [Int.zero_add]
      refine ⟨_, _, rfl, .inl (cell_head.trans e), stepD t s p ov D r i, .sh (.int (i : Int)), _, _, t11, t12, t13, t14, t15, t16, t17, t18, rfl, ?_, sz.step hl, fun _ => ⟨_, rfl⟩⟩
      exact Sp.step inv (by omega) (fun a b => by omega)) ⟨D, s8, s9, s10, s11, s12, s13, s14, s15, s16, s17, s18, rfl, fun g => by
        have h := inv g
        have e : (fun a b => b < t.C ∧ a < r) = fun a b => b < t.C ∧ (a < r ∨ (a = r ∧ b < 0)) := by
          funext a b
          exact propext (by omega)
        rwa [e] at h, sz, fun h => by omega⟩
  rw [rangeP_len] at k3 k4 k5
  subst k2
  refine ⟨D', t8, t9, t10, t11, t12, t13, t14, t15, t16, t17, t18, ?_, fun g => ?_, by rw [Nat.succ_mul]; exact k4, k5⟩
  · rw [← k1]
    simp [B__law_one_fold_1, leE, rg1_nat (show t.C ≤ 1000000000 by omega)]
  · have h := k3 g
    have e : (fun a b => b < t.C ∧ (a < r ∨ (a = r ∧ b < t.C))) = fun a b => b < t.C ∧ a < r + 1 := by
      funext a b
      exact propext (by omega)
    rwa [e] at h
theorem rows_loop {t : SS} {s : Side} {p : Nat} {ov : Bool} (hl : ∀ r c, (t.f r c).length ≤ 1000) (hR1 : 1 ≤ t.R) (hC1 : 1 ≤ t.C) (hR : t.R ≤ 8) (hC : t.C ≤ 8) :
    ∃ (D : Dct) (t7 t8 : PV) (t9 t10 t11 t12 t13 t14 t15 t16 t17 t18 : Sl), sFor (iR1 (dCons (dVar 4) dNil)) (gName 7) B__law_one_fold_1 (leE t s p ov [] .un .un .un .un .un .un .un .un .un .un .un .un) = .nx (leE t s p ov D (.sh t7) (.sh t8) t9 t10 t11 t12 t13 t14 t15 t16 t17 t18) ∧ (∀ g, Sp t s p ov (fun a b => b < t.C ∧ a < t.R) g (lookD D g)) ∧ SzD D 64 := by
  have hRC : t.R * t.C ≤ 64 := Nat.mul_le_mul hR hC
  obtain ⟨ρ, k1, D', s7, t8, t9, t10, t11, t12, t13, t14, t15, t16, t17, t18, k2, k3, k4, k5⟩ := dLoop_inv (tgt := gName 7) (body := B__law_one_fold_1) (items := rangeP 0 t.R) (ρ0 := leE t s p ov [] .un .un .un .un .un .un .un .un .un .un .un .un)
    (fun i ρ => ∃ (D : Dct) (s7 s8 s9 s10 s11 s12 s13 s14 s15 s16 s17 s18 : Sl), ρ = leE t s p ov D s7 s8 s9 s10 s11 s12 s13 s14 s15 s16 s17 s18 ∧ (∀ g, Sp t s p ov (fun a b => b < t.C ∧ a < i) g (lookD D g)) ∧ SzD D (i * t.C) ∧ (1 ≤ i → (∃ q, s7 = .sh q) ∧ ∃ q, s8 = .sh q))
    (fun i x ρ hx hi => by
      obtain ⟨hie, rfl⟩ := rangeP_get hx
      obtain ⟨D, s7, s8, s9, s10, s11, s12, s13, s14, s15, s16, s17, s18, rfl, inv, sz, _⟩ := hi
      obtain ⟨D', t8, t9, t10, t11, t12, t13, t14, t15, t16, t17, t18, e, inv', sz', h8⟩ := cols_loop (r := i) (s8 := s8) (s9 := s9) (s10 := s10) (s11 := s11) (s12 := s12) (s13 := s13) (s14 := s14) (s15 := s15) (s16 := s16) (s17 := s17) (s18 := s18) hl hie hRC hC inv sz
      rw [Int.zero_add]
      exact ⟨_, _, rfl, .inl e, D', _, t8, t9, t10, t11, t12, t13, t14, t15, t16, t17, t18, rfl, inv', sz', fun _ => ⟨⟨_, rfl⟩, h8 hC1⟩⟩) ⟨[], _, _, _, _, _, _, _, _, _, _, _, _, rfl, fun g => by
        have h := Sp.empty (t := t) (s := s) (p := p) (ov := ov) g
        have e : (fun (a b : Nat) => False) = fun a b => b < t.C ∧ a < 0 := by
          funext a b
          exact propext (by simp)
        rwa [e] at h, ⟨by simp, fun g v h => by simp [lookD] at h⟩, fun h => by omega⟩
  rw [rangeP_len] at k3 k4 k5
  subst k2
  obtain ⟨⟨q7, rfl⟩, q8, rfl⟩ := k5 hR1
  refine ⟨D', q7, q8, t9, t10, t11, t12, t13, t14, t15, t16, t17, t18, ?_, k3, ⟨Nat.le_trans k4.n hRC, fun g v h => Nat.le_trans (k4.v g v h) (by omega)⟩⟩
  rw [← k1]
  simp [leE, rg1_nat (show t.R ≤ 1000000000 by omega)]
/-! ### where the goals lie -/
def loR (t : SS) (s : Side) (p : Nat) : Int := match s with
  | .bottom => (p : Int) - (max p (t.R - p) : Nat)
  | .top => (p : Int)
  | _ => 0
def loC (t : SS) (s : Side) (p : Nat) : Int := match s with
  | .right => (p : Int) - (max p (t.C - p) : Nat)
  | .left => (p : Int)
  | _ => 0
theorem both_if {t : SS} {s : Side} {ov : Bool} {a b : Prop} [Decidable a] [Decidable b] {u v : Nat × Nat} (h : a ∨ b) : both t s ov (if a then some u else none) (if b then some v else none) = some (comb ov (if b then (((t.f v.1 v.2).map (oo s)).reverse) else []) (if a then t.f u.1 u.2 else [])) := by
  by_cases ha : a
  · by_cases hb : b
    · simp [ha, hb, both]
    · cases ov <;> simp [ha, hb, both, comb]
  · by_cases hb : b
    · cases ov <;> simp [ha, hb, both, comb]
    · exact (h.elim ha hb).elim
theorem src_if {s : Side} {p : Nat} {Q : Nat → Nat → Prop} {b : Bool} {g : Int × Int} {a : Prop} [Decidable a] {u : Nat × Nat} (h1 : a → Q u.1 u.2 ∧ mv s p u.1 u.2 = b ∧ gl s p u.1 u.2 = g) (h2 : ¬ a → ∀ r c, Q r c → mv s p r c = b → gl s p r c ≠ g) : isSrc s p Q b g (if a then some u else none) := by
  by_cases h : a
  · rw [if_pos h]; exact h1 h
  · rw [if_neg h]; exact h2 h
theorem fin_val {t : SS} {s : Side} {p : Nat} {ov : Bool} {D : Dct} (ok : okF t (s, p, ov)) (inv : ∀ g, Sp t s p ov (fun a b => b < t.C ∧ a < t.R) g (lookD D g)) {i j : Nat} (hi : i < (stepF t (s, p, ov)).R) (hj : j < (stepF t (s, p, ov)).C) :
    lookD D (loR t s p + (i : Int), loC t s p + (j : Int)) = some ((stepF t (s, p, ov)).f i j) := by
  obtain ⟨k1, k2⟩ := ok
  cases s with
  | right =>
    simp only [stepF] at hi hj k1 k2 ⊢
    obtain ⟨st, hst⟩ : ∃ st, st = max p (t.C - p) - 1 - j := ⟨_, rfl⟩
    rw [← hst]
    rw [(inv _).val (U := if st < p then some (i, p - 1 - st) else none) (M := if st < t.C - p then some (i, p + st) else none)
      (src_if (fun h => ⟨⟨by simp only; omega, hi⟩, by simp [mv]; omega, by simp [gl, mv, loR, loC, show ¬ p ≤ p - 1 - st by omega]; omega⟩) (fun h r c hq hm hg => by
        simp only [mv, decide_eq_false_iff_not] at hm
        simp [gl, mv, hm, loR, loC] at hg
        omega))
      (src_if (fun h => ⟨⟨by simp only; omega, hi⟩, by simp [mv], by simp [gl, mv, loR, loC]; omega⟩) (fun h r c hq hm hg => by
        simp only [mv, decide_eq_true_eq] at hm
        simp [gl, mv, hm, loR, loC] at hg
        omega)), both_if (by omega)]
    rfl
  | left =>
    simp only [stepF] at hi hj k1 k2 ⊢
    obtain ⟨st, hst⟩ : ∃ st, st = max (t.C - p) (t.C - (t.C - p)) - 1 - (max (t.C - p) (t.C - (t.C - p)) - 1 - j) := ⟨_, rfl⟩
    rw [← hst]
    rw [(inv _).val (U := if st < t.C - p then some (i, t.C - 1 - (t.C - p - 1 - st)) else none) (M := if st < t.C - (t.C - p) then some (i, t.C - 1 - (t.C - p + st)) else none)
      (src_if (fun h => ⟨⟨by simp only; omega, hi⟩, by simp [mv]; omega, by simp [gl, mv, loR, loC, show ¬ (t.C - 1 - (t.C - p - 1 - st) < p) by omega]; omega⟩) (fun h r c hq hm hg => by
        simp only [mv, decide_eq_false_iff_not] at hm
        simp [gl, mv, hm, loR, loC] at hg
        omega))
      (src_if (fun h => ⟨⟨by simp only; omega, hi⟩, by simp [mv]; omega, by simp [gl, mv, loR, loC, show (t.C - 1 - (t.C - p + st) < p) by omega]; omega⟩) (fun h r c hq hm hg => by
        simp only [mv, decide_eq_true_eq] at hm
        simp [gl, mv, hm, loR, loC] at hg
        omega)), both_if (by omega)]
    rfl
  | bottom =>
    simp only [stepF] at hi hj k1 k2 ⊢
    obtain ⟨st, hst⟩ : ∃ st, st = max p (t.R - p) - 1 - i := ⟨_, rfl⟩
    rw [← hst]
    rw [(inv _).val (U := if st < p then some (p - 1 - st, j) else none) (M := if st < t.R - p then some (p + st, j) else none)
      (src_if (fun h => ⟨⟨hj, by simp only; omega⟩, by simp [mv]; omega, by simp [gl, mv, loR, loC, show ¬ p ≤ p - 1 - st by omega]; omega⟩) (fun h r c hq hm hg => by
        simp only [mv, decide_eq_false_iff_not] at hm
        simp [gl, mv, hm, loR, loC] at hg
        omega))
      (src_if (fun h => ⟨⟨hj, by simp only; omega⟩, by simp [mv], by simp [gl, mv, loR, loC]; omega⟩) (fun h r c hq hm hg => by
        simp only [mv, decide_eq_true_eq] at hm
        simp [gl, mv, hm, loR, loC] at hg
        omega)), both_if (by omega)]
    rfl
  | top =>
    simp only [stepF] at hi hj k1 k2 ⊢
    obtain ⟨st, hst⟩ : ∃ st, st = max (t.R - p) (t.R - (t.R - p)) - 1 - (max (t.R - p) (t.R - (t.R - p)) - 1 - i) := ⟨_, rfl⟩
    rw [← hst]
    rw [(inv _).val (U := if st < t.R - p then some (t.R - 1 - (t.R - p - 1 - st), j) else none) (M := if st < t.R - (t.R - p) then some (t.R - 1 - (t.R - p + st), j) else none)
      (src_if (fun h => ⟨⟨hj, by simp only; omega⟩, by simp [mv]; omega, by simp [gl, mv, loR, loC, show ¬ (t.R - 1 - (t.R - p - 1 - st) < p) by omega]; omega⟩) (fun h r c hq hm hg => by
        simp only [mv, decide_eq_false_iff_not] at hm
        simp [gl, mv, hm, loR, loC] at hg
        omega))
      (src_if (fun h => ⟨⟨hj, by simp only; omega⟩, by simp [mv]; omega, by simp [gl, mv, loR, loC, show (t.R - 1 - (t.R - p + st) < p) by omega]; omega⟩) (fun h r c hq hm hg => by
        simp only [mv, decide_eq_true_eq] at hm
        simp [gl, mv, hm, loR, loC] at hg
        omega)), both_if (by omega)]
    rfl
theorem rows_iff {t : SS} {s : Side} {p : Nat} {ov : Bool} (ok : okF t (s, p, ov)) (hR : 1 ≤ t.R) (hC : 1 ≤ t.C) (k : Int) : (∃ r c, (c < t.C ∧ r < t.R) ∧ (gl s p r c).1 = k) ↔ loR t s p ≤ k ∧ k < loR t s p + ((stepF t (s, p, ov)).R : Int) := by
  obtain ⟨k1, k2⟩ := ok
  cases s with
  | right =>
    simp only [stepF, loR] at k1 k2 ⊢
    constructor
    · rintro ⟨r, c, ⟨h1, h2⟩, rfl⟩
      by_cases hm : p ≤ c <;> simp [gl, mv, hm] <;> omega
    · rintro ⟨h1, h2⟩
      exact ⟨k.toNat, 0, by omega, by by_cases hm : p ≤ 0 <;> simp [gl, mv, hm] <;> omega⟩
  | left =>
    simp only [stepF, loR] at k1 k2 ⊢
    constructor
    · rintro ⟨r, c, ⟨h1, h2⟩, rfl⟩
      by_cases hm : c < p <;> simp [gl, mv, hm] <;> omega
    · rintro ⟨h1, h2⟩
      exact ⟨k.toNat, 0, by omega, by by_cases hm : 0 < p <;> simp [gl, mv, hm] <;> omega⟩
  | bottom =>
    simp only [stepF, loR] at k1 k2 ⊢
    constructor
    · rintro ⟨r, c, ⟨h1, h2⟩, rfl⟩
      by_cases hm : p ≤ r <;> simp [gl, mv, hm] <;> omega
    · rintro ⟨h1, h2⟩
      by_cases hk : 0 ≤ k
      · exact ⟨k.toNat, 0, by omega, by simp [gl, mv, show ¬ p ≤ k.toNat by omega]; omega⟩
      · exact ⟨(2 * (p : Int) - 1 - k).toNat, 0, by omega, by simp [gl, mv, show p ≤ (2 * (p : Int) - 1 - k).toNat by omega]; omega⟩
  | top =>
    simp only [stepF, loR] at k1 k2 ⊢
    constructor
    · rintro ⟨r, c, ⟨h1, h2⟩, rfl⟩
      by_cases hm : r < p <;> simp [gl, mv, hm] <;> omega
    · rintro ⟨h1, h2⟩
      by_cases hk : k < t.R
      · exact ⟨k.toNat, 0, by omega, by simp [gl, mv, show ¬ k.toNat < p by omega]; omega⟩
      · exact ⟨(2 * (p : Int) - 1 - k).toNat, 0, by omega, by simp [gl, mv, show (2 * (p : Int) - 1 - k).toNat < p by omega]; omega⟩
theorem cols_iff {t : SS} {s : Side} {p : Nat} {ov : Bool} (ok : okF t (s, p, ov)) (hR : 1 ≤ t.R) (hC : 1 ≤ t.C) (k : Int) : (∃ r c, (c < t.C ∧ r < t.R) ∧ (gl s p r c).2 = k) ↔ loC t s p ≤ k ∧ k < loC t s p + ((stepF t (s, p, ov)).C : Int) := by
  obtain ⟨k1, k2⟩ := ok
  cases s with
  | right =>
    simp only [stepF, loC] at k1 k2 ⊢
    constructor
    · rintro ⟨r, c, ⟨h1, h2⟩, rfl⟩
      by_cases hm : p ≤ c <;> simp [gl, mv, hm] <;> omega
    · rintro ⟨h1, h2⟩
      by_cases hk : 0 ≤ k
      · exact ⟨0, k.toNat, by omega, by simp [gl, mv, show ¬ p ≤ k.toNat by omega]; omega⟩
      · exact ⟨0, (2 * (p : Int) - 1 - k).toNat, by omega, by simp [gl, mv, show p ≤ (2 * (p : Int) - 1 - k).toNat by omega]; omega⟩
  | left =>
    simp only [stepF, loC] at k1 k2 ⊢
    constructor
    · rintro ⟨r, c, ⟨h1, h2⟩, rfl⟩
      by_cases hm : c < p <;> simp [gl, mv, hm] <;> omega
    · rintro ⟨h1, h2⟩
      by_cases hk : k < t.C
      · exact ⟨0, k.toNat, by omega, by simp [gl, mv, show ¬ k.toNat < p by omega]; omega⟩
      · exact ⟨0, (2 * (p : Int) - 1 - k).toNat, by omega, by simp [gl, mv, show (2 * (p : Int) - 1 - k).toNat < p by omega]; omega⟩
  | bottom =>
    simp only [stepF, loC] at k1 k2 ⊢
    constructor
    · rintro ⟨r, c, ⟨h1, h2⟩, rfl⟩
      by_cases hm : p ≤ r <;> simp [gl, mv, hm] <;> omega
    · rintro ⟨h1, h2⟩
      exact ⟨0, k.toNat, by omega, by by_cases hm : p ≤ 0 <;> simp [gl, mv, hm] <;> omega⟩
  | top =>
    simp only [stepF, loC] at k1 k2 ⊢
    constructor
    · rintro ⟨r, c, ⟨h1, h2⟩, rfl⟩
      by_cases hm : r < p <;> simp [gl, mv, hm] <;> omega
    · rintro ⟨h1, h2⟩
      exact ⟨0, k.toNat, by omega, by by_cases hm : 0 < p <;> simp [gl, mv, hm] <;> omega⟩
def ivl (lo : Int) (n : Nat) : List Int := (List.range n).map fun i : Nat => lo + (i : Int)
theorem ivl_lt (lo : Int) (n : Nat) : (ivl lo n).Pairwise (· < ·) := by
  unfold ivl
  rw [List.pairwise_map]
  exact List.pairwise_lt_range.imp fun h => by omega
theorem ivl_mem (lo : Int) (n : Nat) (k : Int) : k ∈ ivl lo n ↔ lo ≤ k ∧ k < lo + (n : Int) := by
  unfold ivl
  rw [List.mem_map]
  constructor
  · rintro ⟨i, hi, rfl⟩
    have := List.mem_range.mp hi
    omega
  · rintro ⟨h1, h2⟩
    exact ⟨(k - lo).toNat, List.mem_range.mpr (by omega), by omega⟩
theorem sort_rows {t : SS} {s : Side} {p : Nat} {ov : Bool} {D : Dct} (ok : okF t (s, p, ov)) (hR : 1 ≤ t.R) (hC : 1 ≤ t.C) (inv : ∀ g, Sp t s p ov (fun a b => b < t.C ∧ a < t.R) g (lookD D g)) : sortU (D.map fun kv => kv.1.1) = ivl (loR t s p) (stepF t (s, p, ov)).R := by
  refine (sortU_uniq (ivl_lt _ _) fun k => ?_).symm
  rw [ivl_mem, ← rows_iff ok hR hC]
  constructor
  · rintro ⟨r, c, hq, rfl⟩
    have := (inv (gl s p r c)).some_iff.mpr ⟨r, c, hq, rfl⟩
    obtain ⟨kv, h1, h2⟩ := look_mem.mp this
    exact List.mem_map.mpr ⟨kv, h1, by rw [h2]⟩
  · intro h
    obtain ⟨kv, h1, rfl⟩ := List.mem_map.mp h
    obtain ⟨r, c, hq, hg⟩ := (inv kv.1).some_iff.mp (look_mem.mpr ⟨kv, h1, rfl⟩)
    exact ⟨r, c, hq, by rw [hg]⟩
theorem sort_cols {t : SS} {s : Side} {p : Nat} {ov : Bool} {D : Dct} (ok : okF t (s, p, ov)) (hR : 1 ≤ t.R) (hC : 1 ≤ t.C) (inv : ∀ g, Sp t s p ov (fun a b => b < t.C ∧ a < t.R) g (lookD D g)) : sortU (D.map fun kv => kv.1.2) = ivl (loC t s p) (stepF t (s, p, ov)).C := by
  refine (sortU_uniq (ivl_lt _ _) fun k => ?_).symm
  rw [ivl_mem, ← cols_iff ok hR hC]
  constructor
  · rintro ⟨r, c, hq, rfl⟩
    have := (inv (gl s p r c)).some_iff.mpr ⟨r, c, hq, rfl⟩
    obtain ⟨kv, h1, h2⟩ := look_mem.mp this
    exact List.mem_map.mpr ⟨kv, h1, by rw [h2]⟩
  · intro h
    obtain ⟨kv, h1, rfl⟩ := List.mem_map.mp h
    obtain ⟨r, c, hq, hg⟩ := (inv kv.1).some_iff.mp (look_mem.mpr ⟨kv, h1, rfl⟩)
    exact ⟨r, c, hq, by rw [hg]⟩
/-! ### the law's fold -/
def keE (t : SS) (s : Side) (p : Nat) (ov : Bool) (D : Dct) (s7 s8 s9 s10 s11 s12 s13 s14 s15 s16 s17 s18 s19 s20 : Sl) : Env := [.sh t.P, .sh (.str (ss s)), .sh (.int (p : Int)), .sh (.str (ws ov)), .sh (.int (t.R : Int)), .sh (.int (t.C : Int)), .sh (dctP D), s7, s8, s9, s10, s11, s12, s13, s14, s15, s16, s17, s18, s19, s20]
theorem keys_lc {t : SS} {s : Side} {p : Nat} {ov : Bool} {D : Dct} {s9 s10 s11 s12 s13 s14 s15 s16 s17 s18 s19 s20 : Sl} (E : Den) (f : Int × Int → PV) (hE : ∀ (s7 s8 s9 s10 s11 s12 s13 s14 s15 s16 s17 s18 s19 s20 : Sl) (g : Int × Int), E (keE t s p ov D (.sh (.int g.1)) (.sh (.int g.2)) s9 s10 s11 s12 s13 s14 s15 s16 s17 s18 s19 s20) = .ok (f g) (keE t s p ov D (.sh (.int g.1)) (.sh (.int g.2)) s9 s10 s11 s12 s13 s14 s15 s16 s17 s18 s19 s20)) :
    lcLoop [7, 8] (gTup (gsCons (gName 7) (gsCons (gName 8) gsNil))) bYes E (D.map fun kv => keyT kv.1) (keE t s p ov D .un .un s9.lock s10.lock s11.lock s12.lock s13.lock s14.lock s15.lock s16.lock s17.lock s18.lock s19.lock s20.lock)
      = some (D.map fun kv => f kv.1, keE t s p ov D .un .un s9.lock s10.lock s11.lock s12.lock s13.lock s14.lock s15.lock s16.lock s17.lock s18.lock s19.lock s20.lock) := by
  refine lc_mapG (fun kv : (Int × Int) × List Leaf => keyT kv.1) (fun kv => f kv.1) _ D fun kv _ => ⟨_, _, rfl, hE .un .un _ _ _ _ _ _ _ _ _ _ _ _ kv.1, ?_, ?_⟩
  · simp [keE, isOw_lock]
  · simp [keE, wipeE]
theorem dct_over {t : SS} {s : Side} {p : Nat} {ov : Bool} {D : Dct} {q7 q8 : PV} {s9 s10 s11 s12 s13 s14 s15 s16 s17 s18 s19 s20 : Sl} (E : Den) (f : Int × Int → PV) (hD : D.length ≤ 64) (hE : ∀ (s7 s8 s9 s10 s11 s12 s13 s14 s15 s16 s17 s18 s19 s20 : Sl) (g : Int × Int), E (keE t s p ov D (.sh (.int g.1)) (.sh (.int g.2)) s9 s10 s11 s12 s13 s14 s15 s16 s17 s18 s19 s20) = .ok (f g) (keE t s p ov D (.sh (.int g.1)) (.sh (.int g.2)) s9 s10 s11 s12 s13 s14 s15 s16 s17 s18 s19 s20)) :
    dLcD [7, 8] 6 (gTup (gsCons (gName 7) (gsCons (gName 8) gsNil))) bYes E (keE t s p ov D (.sh q7) (.sh q8) s9 s10 s11 s12 s13 s14 s15 s16 s17 s18 s19 s20) = .ok (.lst (D.map fun kv => f kv.1)) (keE t s p ov D (.sh q7) (.sh q8) s9 s10 s11 s12 s13 s14 s15 s16 s17 s18 s19 s20) := by
  have k := keys_lc (s9 := s9) (s10 := s10) (s11 := s11) (s12 := s12) (s13 := s13) (s14 := s14) (s15 := s15) (s16 := s16) (s17 := s17) (s18 := s18) (s19 := s19) (s20 := s20) E f hE
  have l : lockE [7, 8] (keE t s p ov D (.sh q7) (.sh q8) s9 s10 s11 s12 s13 s14 s15 s16 s17 s18 s19 s20) = keE t s p ov D .un .un s9.lock s10.lock s11.lock s12.lock s13.lock s14.lock s15.lock s16.lock s17.lock s18.lock s19.lock s20.lock := by simp [lockE, keE]
  have b : backE [7, 8] (keE t s p ov D (.sh q7) (.sh q8) s9 s10 s11 s12 s13 s14 s15 s16 s17 s18 s19 s20) (keE t s p ov D .un .un s9.lock s10.lock s11.lock s12.lock s13.lock s14.lock s15.lock s16.lock s17.lock s18.lock s19.lock s20.lock) = keE t s p ov D (.sh q7) (.sh q8) s9 s10 s11 s12 s13 s14 s15 s16 s17 s18 s19 s20 := by
    simp [keE, ap_backE, backR, back_lock]
  have v : dVar 6 (keE t s p ov D (.sh q7) (.sh q8) s9 s10 s11 s12 s13 s14 s15 s16 s17 s18 s19 s20) = .ok (dctP D) (keE t s p ov D (.sh q7) (.sh q8) s9 s10 s11 s12 s13 s14 s15 s16 s17 s18 s19 s20) := by simp [keE]
  rw [ap_dLcD, v]
  simp only [bind_ok, dctP, l]
  rw [k]
  simp only [List.length_map, show D.length ≤ 1000000 by omega, if_true, b]
theorem F_lfold_ok {t : SS} {x : Fold} (h : Bd t) (ok : okF t x) : F__law_one_fold [t.P, .str (ss x.1), .int (x.2.1 : Int), .str (ws x.2.2)] = .ok (stepF t x).P .non := by
  have hb' := h.step ok
  have hl := h.l'
  obtain ⟨s, p, ov⟩ := x
  have s1 := h.sz
  have s2 := hb'.sz
  obtain ⟨D, q7, q8, t9, t10, t11, t12, t13, t14, t15, t16, t17, t18, e, inv, sz⟩ := rows_loop (t := t) (s := s) (p := p) (ov := ov) hl h.r h.c (by have := h.c; omega) (by have := h.r; omega)
  have R1 := sort_rows ok h.r h.c inv
  have C1 := sort_cols ok h.r h.c inv
  have sR : (ivl (loR t s p) (stepF t (s, p, ov)).R).length < 64 := by simp [ivl]; omega
  have sC : (ivl (loC t s p) (stepF t (s, p, ov)).C).length < 64 := by simp [ivl]; omega
  obtain ⟨LR, hLR⟩ : ∃ LR, LR = ivl (loR t s p) (stepF t (s, p, ov)).R := ⟨_, rfl⟩
  obtain ⟨LC, hLC⟩ : ∃ LC, LC = ivl (loC t s p) (stepF t (s, p, ov)).C := ⟨_, rfl⟩
  have D4 := fun (s19 s20 : Sl) => dct_over (t := t) (s := s) (p := p) (ov := ov) (D := D) (q7 := q7) (q8 := q8) (s9 := t9) (s10 := t10) (s11 := t11) (s12 := t12) (s13 := t13) (s14 := t14) (s15 := t15) (s16 := t16) (s17 := t17) (s18 := t18) (s19 := s19) (s20 := s20) E__law_one_fold_4 (fun g => .int g.1) sz.n (fun _ _ _ _ _ _ _ _ _ _ _ _ _ _ g => by simp [E__law_one_fold_4, keE])
  have D5 := fun (s19 s20 : Sl) => dct_over (t := t) (s := s) (p := p) (ov := ov) (D := D) (q7 := q7) (q8 := q8) (s9 := t9) (s10 := t10) (s11 := t11) (s12 := t12) (s13 := t13) (s14 := t14) (s15 := t15) (s16 := t16) (s17 := t17) (s18 := t18) (s19 := s19) (s20 := s20) E__law_one_fold_5 (fun g => .int g.2) sz.n (fun _ _ _ _ _ _ _ _ _ _ _ _ _ _ g => by simp [E__law_one_fold_5, keE])
  have i0 : gIx t.P (.int 0) = some (rowP t.C (t.f 0)) := run_row h.r
  have shareD : ∀ E, dLcD [7, 8] 6 (gTup (gsCons (gName 7) (gsCons (gName 8) gsNil))) bYes E (leE t s p ov D (.sh q7) (.sh q8) t9 t10 t11 t12 t13 t14 t15 t16 t17 t18) = dLcD [7, 8] 6 (gTup (gsCons (gName 7) (gsCons (gName 8) gsNil))) bYes E (keE t s p ov D (.sh q7) (.sh q8) t9 t10 t11 t12 t13 t14 t15 t16 t17 t18 .un .un) := by
    intro E
    simp [leE, keE]
  have in1 : intsOf (.lst (D.map fun kv => PV.int kv.1.1)) = some (D.map fun kv => kv.1.1) := ints_mapF _ _
  have in2 : intsOf (.lst (D.map fun kv => PV.int kv.1.2)) = some (D.map fun kv => kv.1.2) := ints_mapF _ _
  have hD := sz.n
  have S5 : sSet 19 (dSortSet (dLcD [7, 8] 6 (gTup (gsCons (gName 7) (gsCons (gName 8) gsNil))) bYes E__law_one_fold_4)) (leE t s p ov D (.sh q7) (.sh q8) t9 t10 t11 t12 t13 t14 t15 t16 t17 t18) = .nx (keE t s p ov D (.sh q7) (.sh q8) t9 t10 t11 t12 t13 t14 t15 t16 t17 t18 (.sh (.lst (LR.map .int))) .un) := by
    rw [ap_sSet, ap_dSortSet, shareD, D4]
    simp only [bind_ok, in1, R1]
    rw [if_pos ⟨by simp; omega, sR⟩, ← hLR]
    rfl
  have S6 : sSet 20 (dSortSet (dLcD [7, 8] 6 (gTup (gsCons (gName 7) (gsCons (gName 8) gsNil))) bYes E__law_one_fold_5)) (keE t s p ov D (.sh q7) (.sh q8) t9 t10 t11 t12 t13 t14 t15 t16 t17 t18 (.sh (.lst (LR.map .int))) .un) = .nx (keE t s p ov D (.sh q7) (.sh q8) t9 t10 t11 t12 t13 t14 t15 t16 t17 t18 (.sh (.lst (LR.map .int))) (.sh (.lst (LC.map .int)))) := by
    rw [ap_sSet, ap_dSortSet, D5]
    simp only [bind_ok, in2, C1]
    rw [if_pos ⟨by simp; omega, sC⟩, ← hLC]
    rfl
  have lR : LR.map PV.int = (List.range (stepF t (s, p, ov)).R).map fun i : Nat => PV.int (loR t s p + (i : Int)) := by rw [hLR]; simp [ivl]
  have lC : LC.map PV.int = (List.range (stepF t (s, p, ov)).C).map fun i : Nat => PV.int (loC t s p + (i : Int)) := by rw [hLC]; simp [ivl]
  have S7 : dLc [7] (iSeq (dVar 19)) (gName 7) bYes E__law_one_fold_6 (keE t s p ov D (.sh q7) (.sh q8) t9 t10 t11 t12 t13 t14 t15 t16 t17 t18 (.sh (.lst (LR.map .int))) (.sh (.lst (LC.map .int)))) = .ok (stepF t (s, p, ov)).P (keE t s p ov D (.sh q7) (.sh q8) t9 t10 t11 t12 t13 t14 t15 t16 t17 t18 (.sh (.lst (LR.map .int))) (.sh (.lst (LC.map .int)))) := by
    refine dLc_ok2 (fun i : Nat => PV.int (loR t s p + (i : Int))) (fun i => rowP (stepF t (s, p, ov)).C ((stepF t (s, p, ov)).f i)) (List.range (stepF t (s, p, ov)).R) (by simp [keE, lR]) rfl rfl (by simp; omega) fun i hi => ?_
    have hi := List.mem_range.mp hi
    unfold E__law_one_fold_6
    refine dLc_ok2 (fun j : Nat => PV.int (loC t s p + (j : Int))) (fun j => heapP ((stepF t (s, p, ov)).f i j)) (List.range (stepF t (s, p, ov)).C) (by simp [keE, lC]) rfl rfl (by simp; omega) fun j hj => ?_
    have hj := List.mem_range.mp hj
    have fv := fin_val ok inv hi hj
    have lk := look_P (loR t s p + (i : Int), loC t s p + (j : Int)) D
    rw [fv] at lk
    have gd : gDG (dctP D) (keyT (loR t s p + (i : Int), loC t s p + (j : Int))) = some (heapP ((stepF t (s, p, ov)).f i j)) := by
      simp only [dctP, gDG, good_T, if_true, lk]
      rfl
    have gd : gDG (dctP D) (.tup [.int (loR t s p + (i : Int)), .int (loC t s p + (j : Int))]) = some (heapP ((stepF t (s, p, ov)).f i j)) := gd
    simp [E__law_one_fold_7, keE, gd, szn (show 2 ≤ 1000000 by omega)]
  have D0 : den__law_one_fold [.sh t.P, .sh (.str (ss s)), .sh (.int (p : Int)), .sh (.str (ws ov)), .un, .un, .un, .un, .un, .un, .un, .un, .un, .un, .un, .un, .un, .un, .un, .un, .un] = .rt (stepF t (s, p, ov)).P (keE t s p ov D (.sh q7) (.sh q8) t9 t10 t11 t12 t13 t14 t15 t16 t17 t18 (.sh (.lst (LR.map .int))) (.sh (.lst (LC.map .int)))) := by
    unfold den__law_one_fold
    (apply sq_step; focus (simp [run_len] <;> rfl))
    (apply sq_step; focus (simp [i0, row_len] <;> rfl))
    (apply sq_step; focus (simp [] <;> rfl))
    have e : sFor (iR1 (dCons (dVar 4) dNil)) (gName 7) B__law_one_fold_1 [.sh t.P, .sh (.str (ss s)), .sh (.int (p : Int)), .sh (.str (ws ov)), .sh (.int (t.R : Int)), .sh (.int (t.C : Int)), .ow (.dic true [] []), .un, .un, .un, .un, .un, .un, .un, .un, .un, .un, .un, .un, .un, .un] = _ := e
    rw [seq_nx e, seq_nx S5, seq_nx S6, ap_sRet, S7]
    rfl
  exact run_rt D0
/-! ### drawn folds -/
def chs (t : SS) : List Side := (if 1 < t.C then [.left, .right] else []) ++ (if 1 < t.R then [.top, .bottom] else [])
theorem chs_ok {t : SS} {s : Side} (h : s ∈ chs t) : 1 < dimF t s := by
  unfold chs at h
  by_cases h1 : 1 < t.C <;> by_cases h2 : 1 < t.R <;> simp [h1, h2] at h <;> rcases h with rfl | rfl | rfl | rfl <;> simp [dimF] <;> omega
theorem okF_dim {t : SS} {s : Side} {p : Nat} {ov : Bool} (h1 : 0 < p) (h2 : p < dimF t s) : okF t (s, p, ov) := by
  refine ⟨h1, ?_⟩
  cases s <;> exact h2
def lfE (ds : List Int) (R C : Nat) (t : SS) (xs : List Fold) (s5 s6 s7 s8 s9 : Sl) : Env := [.io (dk ds), .sh (.int (R : Int)), .sh (.int (C : Int)), .sh t.P, .ow (.lst (xs.map foldP)), s5, s6, s7, s8, s9]
theorem draw_body {ds : List Int} {R C : Nat} {t : SS} {xs : List Fold} {s5 s6 s7 s8 s9 : Sl} (h : Bd t) (hx : xs.length ≤ 1000) (hg : 1 < t.R ∨ 1 < t.C) :
    ∃ x ds' t5 t6 t7 t8 t9, okF t x ∧ B__law_folds_1 (lfE ds R C t xs s5 s6 s7 s8 s9) = .nx (lfE ds' R C (stepF t x) (xs ++ [x]) t5 t6 t7 t8 t9) := by
  have hsz := h.sz
  have hR := h.r
  have hC := h.c
  have hlen : 0 < (chs t).length := by
    unfold chs
    by_cases h1 : 1 < t.C
    · simp [h1]
    · simp [h1, show 1 < t.R by omega]
  obtain ⟨v, ds1, hv, e1⟩ := take_nat ds (chs t).length hlen
  obtain ⟨s, hs⟩ : ∃ s, s = (chs t)[v] := ⟨_, rfl⟩
  have hs1 : 1 < dimF t s := chs_ok (by rw [hs]; exact List.getElem_mem hv)
  have hix : gIx (.lst ((chs t).map fun s => PV.str (ss s))) (.int (v : Int)) = some (.str (ss s)) := by
    show L2.atI _ _ = _
    rw [atI_nat (by simpa using hv), List.getElem_map, hs]
  have d8 : dimF t s ≤ 8 := by cases s <;> simp only [dimF] <;> omega
  obtain ⟨u, ds2, hu, e2⟩ := take_nat ds1 (dimF t s - 1) (by omega)
  have e2 : F_take [dk ds1, .int ((dimF t s : Int) - 1)] = .ok (.int (u : Int)) (dk ds2) := by
    rw [← e2]
    congr 2
    congr 2
    omega
  obtain ⟨a, ds3, ha, e3⟩ := take_nat ds2 2 (by omega)
  have e3 : F_take [dk ds2, .int 2] = .ok (.int (a : Int)) (dk ds3) := e3
  obtain ⟨b, ds4, hb, e4⟩ := take_nat ds3 2 (by omega)
  have e4 : F_take [dk ds3, .int 2] = .ok (.int (b : Int)) (dk ds4) := e4
  obtain ⟨p, hp⟩ : ∃ p, p = if a = 0 ∧ dimF t s % 2 = 0 then dimF t s / 2 else 1 + u := ⟨_, rfl⟩
  have p1 : 0 < p := by rw [hp]; split <;> omega
  have p2 : p < dimF t s := by rw [hp]; split <;> omega
  obtain ⟨ov, hov⟩ : ∃ ov, ov = decide (b = 0) := ⟨_, rfl⟩
  have hw : gIx (.lst [.str "over", .str "under"]) (.int (b : Int)) = some (.str (ws ov)) := by
    rcases (show b = 0 ∨ b = 1 by omega) with rfl | rfl
    · subst hov; rfl
    · subst hov; rfl
  have ok := okF_dim (ov := ov) p1 p2
  have lf := F_lfold_ok h ok
  simp only at lf
  refine ⟨(s, p, ov), ds4, .sh (.lst ((chs t).map fun s => PV.str (ss s))), .sh (.str (ss s)), .sh (.int (dimF t s : Int)), .sh (.int (p : Int)), .sh (.str (ws ov)), ok, ?_⟩
  have i0 := run_row h.r
  have z2 := szn (show 2 ≤ 1000000 by omega)
  have z4 := szn (show 4 ≤ 1000000 by omega)
  unfold B__law_folds_1
  have S1 : sSet 5 (dLst dNil) (lfE ds R C t xs s5 s6 s7 s8 s9) = .nx (lfE ds R C t xs (.sh (.lst [])) s6 s7 s8 s9) := by simp [lfE, szn]
  have S2 : (sIf (bVal (d2 gGt (dN gLenN (dCons (d2 gIx (dVar 3) (dC (.int 0))) dNil)) (dC (.int 1)))) (sSet 5 (dAdd (dVar 5) (dLst (dCons (dC (.str ("left" : Str))) (dCons (dC (.str ("right" : Str))) dNil))))) sNx) (lfE ds R C t xs (.sh (.lst [])) s6 s7 s8 s9) = .nx (lfE ds R C t xs (.sh (.lst ((if 1 < t.C then [Side.left, .right] else []).map fun s => PV.str (ss s)))) s6 s7 s8 s9) := by
    by_cases h1 : 1 < t.C
    · simp [lfE, i0, row_len, h1, show (1 : Int) < (t.C : Int) by omega, z2, ss]
    · simp [lfE, i0, row_len, h1, show ¬ (1 : Int) < (t.C : Int) by omega]
  have S3 : (sIf (bVal (d2 gGt (dN gLenN (dCons (dVar 3) dNil)) (dC (.int 1)))) (sSet 5 (dAdd (dVar 5) (dLst (dCons (dC (.str ("top" : Str))) (dCons (dC (.str ("bottom" : Str))) dNil))))) sNx) (lfE ds R C t xs (.sh (.lst ((if 1 < t.C then [Side.left, .right] else []).map fun s => PV.str (ss s)))) s6 s7 s8 s9) = .nx (lfE ds R C t xs (.sh (.lst ((chs t).map fun s => PV.str (ss s)))) s6 s7 s8 s9) := by
    unfold chs
    by_cases h2 : 1 < t.R
    · by_cases h1 : 1 < t.C <;> simp [lfE, run_len, h1, h2, show (1 : Int) < (t.R : Int) by omega, z2, z4, ss]
    · by_cases h1 : 1 < t.C <;> simp [lfE, run_len, h1, h2, show ¬ (1 : Int) < (t.R : Int) by omega, z2, z4, ss]
  have S4 : (sSet 6 (d2 gIx (dVar 5) (dCallIo F__law_take 0 (dCons (dN gLenN (dCons (dVar 5) dNil)) dNil)))) (lfE ds R C t xs (.sh (.lst ((chs t).map fun s => PV.str (ss s)))) s6 s7 s8 s9) = .nx (lfE ds1 R C t xs (.sh (.lst ((chs t).map fun s => PV.str (ss s)))) (.sh (.str (ss s))) s7 s8 s9) := by
    simp [lfE, e1, hix, -ap_ixL]
  have i1 : gInT false (.str (ss s)) (.tup [.str "left", .str "right"]) = some (.bl (decide (s = .left ∨ s = .right))) := by cases s <;> kernel_rfl
  have S5 : (sSet 7 (dIf (bVal (d2 (gInT false) (dVar 6) (dTup (dCons (dC (.str ("left" : Str))) (dCons (dC (.str ("right" : Str))) dNil))))) (dN gLenN (dCons (d2 gIx (dVar 3) (dC (.int 0))) dNil)) (dN gLenN (dCons (dVar 3) dNil)))) (lfE ds1 R C t xs (.sh (.lst ((chs t).map fun s => PV.str (ss s)))) (.sh (.str (ss s))) s7 s8 s9) = .nx (lfE ds1 R C t xs (.sh (.lst ((chs t).map fun s => PV.str (ss s)))) (.sh (.str (ss s))) (.sh (.int (dimF t s : Int))) s8 s9) := by
    cases s <;> simp [lfE, z2, i1, i0, row_len, run_len, dimF]
  have S6 : (sSet 8 (dAdd (dC (.int 1)) (dCallIo F__law_take 0 (dCons (dSub (dVar 7) (dC (.int 1))) dNil)))) (lfE ds1 R C t xs (.sh (.lst ((chs t).map fun s => PV.str (ss s)))) (.sh (.str (ss s))) (.sh (.int (dimF t s : Int))) s8 s9) = .nx (lfE ds2 R C t xs (.sh (.lst ((chs t).map fun s => PV.str (ss s)))) (.sh (.str (ss s))) (.sh (.int (dimF t s : Int))) (.sh (.int ((1 + u : Nat) : Int))) s9) := by
    simp [lfE, e2]
  have l2 : Nat.log2 2 < 9000 := by decide
  have S7 : (sIf (bAnd (bVal (d2 gEq (dCallIo F__law_take 0 (dCons (dC (.int 2)) dNil)) (dC (.int 0)))) (bVal (d2 gEq (dMod (dN gInt (dCons (dVar 7) dNil)) (dC (.int 2))) (dC (.int 0))))) (sSet 8 (dFdivW (dVar 7) (dC (.int 2)))) sNx) (lfE ds2 R C t xs (.sh (.lst ((chs t).map fun s => PV.str (ss s)))) (.sh (.str (ss s))) (.sh (.int (dimF t s : Int))) (.sh (.int ((1 + u : Nat) : Int))) s9) = .nx (lfE ds3 R C t xs (.sh (.lst ((chs t).map fun s => PV.str (ss s)))) (.sh (.str (ss s))) (.sh (.int (dimF t s : Int))) (.sh (.int (p : Int))) s9) := by
    by_cases ha0 : a = 0
    · by_cases hd : dimF t s % 2 = 0
      · have hd2 : (dimF t s : Int) % 2 = 0 := by omega
        have hp2 : (dimF t s : Int) / 2 = (p : Int) := by rw [hp, if_pos ⟨ha0, hd⟩]; omega
        simp [lfE, e3, ha0, hd2, l2, hp2]
      · have hd2 : ¬ (dimF t s : Int) % 2 = 0 := by omega
        have hp2 : p = 1 + u := by rw [hp, if_neg (fun z => hd z.2)]
        simp [lfE, e3, ha0, hd2, hp2]
    · have hp2 : p = 1 + u := by rw [hp, if_neg (fun z => ha0 z.1)]
      simp [lfE, e3, ha0, hp2]
  have S8 : (sSet 9 (d2 gIx (dLst (dCons (dC (.str ("over" : Str))) (dCons (dC (.str ("under" : Str))) dNil))) (dCallIo F__law_take 0 (dCons (dC (.int 2)) dNil)))) (lfE ds3 R C t xs (.sh (.lst ((chs t).map fun s => PV.str (ss s)))) (.sh (.str (ss s))) (.sh (.int (dimF t s : Int))) (.sh (.int (p : Int))) s9) = .nx (lfE ds4 R C t xs (.sh (.lst ((chs t).map fun s => PV.str (ss s)))) (.sh (.str (ss s))) (.sh (.int (dimF t s : Int))) (.sh (.int (p : Int))) (.sh (.str (ws ov)))) := by
    simp [lfE, e4, z2, hw, -ap_ixL]
  rw [seq_nx S1, seq_nx S2, seq_nx S3, seq_nx S4, seq_nx S5, seq_nx S6, seq_nx S7, seq_nx S8]
  have z3 := szn (show 3 ≤ 1000000 by omega)
  simp [lfE, z3, szl (show xs.length ≤ 1000000 by omega), lf, foldP]
abbrev condF : DenB := (bOr (bVal (d2 gGt (dN gLenN (dCons (dVar 3) dNil)) (dC (.int 1)))) (bVal (d2 gGt (dN gLenN (dCons (d2 gIx (dVar 3) (dC (.int 0))) dNil)) (dC (.int 1)))))
theorem cond_ok {ds : List Int} {R C : Nat} {t : SS} {xs : List Fold} {s5 s6 s7 s8 s9 : Sl} (h : Bd t) : condF (lfE ds R C t xs s5 s6 s7 s8 s9) = .ok (decide (1 < t.R ∨ 1 < t.C)) (lfE ds R C t xs s5 s6 s7 s8 s9) := by
  have i0 := run_row h.r
  by_cases h2 : 1 < t.R
  · simp [condF, lfE, run_len, h2, show (1 : Int) < (t.R : Int) by omega]
  · by_cases h1 : 1 < t.C
    · simp [condF, lfE, run_len, i0, row_len, h1, h2, show ¬ (1 : Int) < (t.R : Int) by omega, show (1 : Int) < (t.C : Int) by omega]
    · simp [condF, lfE, run_len, i0, row_len, h1, h2, show ¬ (1 : Int) < (t.R : Int) by omega, show ¬ (1 : Int) < (t.C : Int) by omega]
theorem draw_loop {R C : Nat} : ∀ (n : Nat) (ds : List Int) (t : SS) (xs : List Fold) (s5 s6 s7 s8 s9 : Sl), Bd t → t.R + t.C ≤ n → xs.length + n ≤ 1000 → ∃ ds' ys t5 t6 t7 t8 t9, dWhile condF B__law_folds_1 n (lfE ds R C t xs s5 s6 s7 s8 s9) = .nx (lfE ds' R C (runF t ys) (xs ++ ys) t5 t6 t7 t8 t9) ∧ okAll t ys ∧ (runF t ys).R = 1 ∧ (runF t ys).C = 1
  | 0, ds, t, xs, s5, s6, s7, s8, s9, h, hn, _ => by have := h.r; omega
  | n + 1, ds, t, xs, s5, s6, s7, s8, s9, h, hn, hx => by
    by_cases hg : 1 < t.R ∨ 1 < t.C
    · obtain ⟨x, ds1, t5, t6, t7, t8, t9, ok, e⟩ := draw_body (ds := ds) (R := R) (C := C) (t := t) (xs := xs) (s5 := s5) (s6 := s6) (s7 := s7) (s8 := s8) (s9 := s9) h (by omega) hg
      have hb := h.step ok
      have sz' : (stepF t x).R + (stepF t x).C ≤ n := by
        obtain ⟨s, p, ov⟩ := x
        obtain ⟨k1, k2⟩ := ok
        have := h.r
        have := h.c
        cases s <;> simp only at k1 k2 <;> simp only [stepF] <;> omega
      obtain ⟨ds', ys, u5, u6, u7, u8, u9, e2, k1, k2, k3⟩ := draw_loop n ds1 (stepF t x) (xs ++ [x]) t5 t6 t7 t8 t9 hb sz' (by rw [List.length_append, List.length_singleton]; omega)
      refine ⟨ds', x :: ys, u5, u6, u7, u8, u9, ?_, ⟨ok, k1⟩, k2, k3⟩
      rw [dWhile, cond_ok h]
      simp only [hg, decide_true, bindS_ok, if_true, e]
      rw [e2, List.append_assoc]
      rfl
    · refine ⟨ds, [], s5, s6, s7, s8, s9, ?_, trivial, ?_, ?_⟩
      · rw [dWhile, cond_ok h]
        simp only [hg, decide_false, bindS_ok, Bool.false_eq_true, if_false, List.append_nil]
        rfl
      · have := h.r
        show t.R = 1
        omega
      · have := h.c
        show t.C = 1
        omega
theorem F_folds_ok {ds : List Int} {R C : Nat} (h : Dim R C) : ∃ ds' ys, F__law_folds [dk ds, .int (R : Int), .int (C : Int)] = .ok (.tup [.lst (ys.map foldP), (runF (t0 R C) ys).P]) (dk ds') ∧ okAll (t0 R C) ys ∧ (runF (t0 R C) ys).R = 1 ∧ (runF (t0 R C) ys).C = 1 := by
  have hb := Bd0 h.r h.c h.s
  have hr := h.r
  have hc := h.c
  have hs := h.s
  have mu : ∀ s5 s6 s7 s8 s9, muSheet 3 (lfE ds R C (t0 R C) [] s5 s6 s7 s8 s9) = R + C + 1 := by
    intro s5 s6 s7 s8 s9
    obtain ⟨k, rfl⟩ : ∃ k, R = k + 1 := ⟨R - 1, by omega⟩
    show (match (some (Sl.sh (t0 (k + 1) C).P) : Option Sl) with
      | some (.sh (.lst (.lst r :: rs))) => rs.length + r.length + 2
      | _ => 0) = _
    have e : (t0 (k + 1) C).P = .lst (.lst ((List.range C).map fun c => heapP ((t0 (k + 1) C).f 0 c)) :: ((List.range k).map fun r => rowP C ((t0 (k + 1) C).f (r + 1)))) := by
      show PV.lst ((List.range (k + 1)).map fun r => rowP C ((t0 (k + 1) C).f r)) = _
      rw [List.range_succ_eq_map]
      simp [rowP, Function.comp_def]
    rw [e]
    simp
    omega
  obtain ⟨ds', ys, t5, t6, t7, t8, t9, e, k1, k2, k3⟩ := draw_loop (R := R) (C := C) (R + C + 1) ds (t0 R C) [] .un .un .un .un .un hb (show R + C ≤ R + C + 1 by omega) (by simp; omega)
  refine ⟨ds', ys, ?_, k1, k2, k3⟩
  have lp := F_lplain_eq (R := R) (C := C) (by omega) (by omega)
  have D : den__law_folds [.io (dk ds), .sh (.int (R : Int)), .sh (.int (C : Int)), .un, .un, .un, .un, .un, .un, .un] = .rt (.tup [.lst (ys.map foldP), (runF (t0 R C) ys).P]) (.io (dk ds') :: [.sh (.int (R : Int)), .sh (.int (C : Int)), .sh (runF (t0 R C) ys).P, .sh (.lst (ys.map foldP)), t5, t6, t7, t8, t9]) := by
    unfold den__law_folds
    (apply sq_step; focus (simp [lp] <;> rfl))
    (apply sq_step; focus (simp [szn] <;> rfl))
    have W : sWhile (muSheet 3) condF B__law_folds_1 [.io (dk ds), .sh (.int (R : Int)), .sh (.int (C : Int)), .sh (t0 R C).P, .ow (.lst []), .un, .un, .un, .un, .un] = .nx (lfE ds' R C (runF (t0 R C) ys) ([] ++ ys) t5 t6 t7 t8 t9) := by
      rw [← e, ← mu .un .un .un .un .un]
      rfl
    rw [seq_nx W]
    simp [lfE, szn (show 2 ≤ 1000000 by omega)]
  exact run_io D
/-! ### the law -/
theorem okD_leaf (l : Leaf) : okD 4 (leafP l) = true := by
  obtain ⟨r, c, f, t⟩ := l
  have h : okD 3 (.str (fs f)) = true := by cases f <;> decide +kernel
  refine okD_tup (by simp) ?_
  simp only [okDs, okD_int, h, okD_bl, Bool.and_self]
theorem okD_heap {h : List Leaf} (hl : h.length ≤ 1000) : okD 5 (heapP h) = true := okD_lst (by simp; omega) (okDs_map fun l _ => okD_leaf l)
theorem okD_sheet {t : SS} (h : Bd t) : okD 7 t.P = true := by
  have := h.sz
  refine okD_lst (by simp; omega) (okDs_map fun r _ => okD_lst (by simp; omega) (okDs_map fun c _ => okD_heap (h.l' r c)))
theorem okD_up {n : Nat} : ∀ {p : PV}, okD n p = true → okD (n + 1) p = true := by
  induction n with
  | zero => intro p h; simp [okD] at h
  | succ n ih =>
    intro p h
    have seq : ∀ ps : List PV, okDs n ps = true → okDs (n + 1) ps = true := fun ps h => okDs_iff.mpr fun q hq => ih (okDs_iff.mp h q hq)
    cases p with
    | lst ps =>
      have h : ps.length ≤ 100000 ∧ okDs n ps = true := by simpa [okD] using h
      exact okD_lst h.1 (seq ps h.2)
    | tup ps =>
      have h : ps.length ≤ 100000 ∧ okDs n ps = true := by simpa [okD] using h
      exact okD_tup h.1 (seq ps h.2)
    | ktup ps =>
      have h : ps.length ≤ 100000 ∧ okDs n ps = true := by simpa [okD] using h
      simp [okD, h.1, seq ps h.2]
    | non => rfl
    | bl b => rfl
    | int i => rfl
    | str x => exact h
    | klst ps => simp [okD] at h
    | dic t ks vs => simp [okD] at h
    | fn a => simp [okD] at h
theorem okAll_take : ∀ {xs : List Fold} {t : SS} (n : Nat), okAll t xs → okAll t (xs.take n)
  | [], _, n, _ => by simp [okAll]
  | x :: xs, t, 0, _ => trivial
  | x :: xs, t, n + 1, h => ⟨h.1, okAll_take (xs := xs) n h.2⟩
theorem run_take : ∀ {xs : List Fold} {t : SS} {n : Nat} (h : n < xs.length), okAll t xs → okF (runF t (xs.take n)) xs[n] ∧ stepF (runF t (xs.take n)) xs[n] = runF t (xs.take (n + 1))
  | x :: xs, t, 0, _, h => ⟨h.1, rfl⟩
  | x :: xs, t, n + 1, hl, h => run_take (xs := xs) (t := stepF t x) (n := n) (by simpa using hl) h.2
def lwE (a0 : PV) (ds : List Int) (s2 s3 s4 s5 s6 s7 s8 s9 s10 s11 : Sl) : Env := [.sh a0, .ow (dk ds), s2, s3, s4, s5, s6, s7, s8, s9, s10, s11]
theorem pre_body {a0 : PV} {ds : List Int} {R C i : Nat} {ys : List Fold} {s2 s6 s9 s10 s11 : Sl} (h : Dim R C) (k : okAll (t0 R C) ys) (hi : i ≤ ys.length) (hy : ys.length ≤ 1000) :
    B_law_2 (lwE a0 ds s2 (.sh (.int (R : Int))) (.sh (.int (C : Int))) (.sh (.lst (ys.map foldP))) s6 (.sh (runF (t0 R C) (ys.take i)).P) (.sh (.int (i : Int))) s9 s10 s11)
      = .nx (lwE a0 ds s2 (.sh (.int (R : Int))) (.sh (.int (C : Int))) (.sh (.lst (ys.map foldP))) s6 (.sh (runF (t0 R C) (ys.take (i + 1))).P) (.sh (.int (i : Int))) s9 s10 s11) := by
  have ki := okAll_take i k
  have hb := runF_Bd (Bd0 h.r h.c h.s) ki
  have ff := F_folded_ok h ki
  have cut : cutP (ys.map foldP) none (some (i : Int)) = (ys.map foldP).take i := cutP_hi _ _
  rw [List.map_take] at ff
  have pl := F_plain_eq 7 _ (okD_sheet hb)
  have ne := plain_ne (okD_sheet hb) (by omega)
  unfold B_law_2
  have S1 : (sIf (bVal (d2 gNe (dCall F__law_plain (dCons (dCall F_folded (dCons (dVar 3) (dCons (dVar 4) (dCons (dSl gSl (dVar 5) oNone (oSome (dVar 8))) dNil)))) dNil)) (dCall F__law_plain (dCons (dVar 7) dNil)))) (sRet (dC (.bl false))) sNx) (lwE a0 ds s2 (.sh (.int (R : Int))) (.sh (.int (C : Int))) (.sh (.lst (ys.map foldP))) s6 (.sh (runF (t0 R C) (ys.take i)).P) (.sh (.int (i : Int))) s9 s10 s11) = .nx (lwE a0 ds s2 (.sh (.int (R : Int))) (.sh (.int (C : Int))) (.sh (.lst (ys.map foldP))) s6 (.sh (runF (t0 R C) (ys.take i)).P) (.sh (.int (i : Int))) s9 s10 s11) := by
    simp [lwE, cut, ff, pl, ne]
  rw [seq_nx S1]
  by_cases hlt : i < ys.length
  · obtain ⟨ok, st⟩ := run_take hlt k
    have nd : ¬ ((runF (t0 R C) (ys.take i)).R = 1 ∧ (runF (t0 R C) (ys.take i)).C = 1) := by
      rintro ⟨e1, e2⟩
      obtain ⟨k1, k2⟩ := ok
      revert k2
      cases hs : (ys[i]).1 <;> intro k2 <;> simp only at k2 <;> omega
    have ro := ref_open h ki nd
    rw [List.map_take] at ro
    have lf := F_lfold_ok hb ok
    rw [st] at lf
    have at_i : L2.atI (ys.map foldP) (i : Int) = some (foldP ys[i]) := by
      rw [atI_nat (by simpa using hlt), List.getElem_map]
    have g0 : gIx (foldP ys[i]) (.int 0) = some (.str (ss (ys[i]).1)) := at0 _ _
    have g1 : gIx (foldP ys[i]) (.int 1) = some (.int ((ys[i]).2.1 : Int)) := at1 _ _ _
    have g2 : gIx (foldP ys[i]) (.int 2) = some (.str (ws (ys[i]).2.2)) := at2 _ _ _ _
    have no : gNe (.str "open") (.str "open") = some (.bl false) := by kernel_rfl
    simp [lwE, hlt, cut, ro, no, at_i, g0, g1, g2, lf]
  · have e : ys.take (i + 1) = ys.take i := by rw [List.take_of_length_le (by omega), List.take_of_length_le (by omega)]
    rw [e]
    simp [lwE, hlt]
theorem bad_ix {R C : Nat} (h : Dim R C) (k : Nat) (hk : k < 9) : ∃ q, gIx (.lst [.tup [.str "right", .int 0, .str "over"], .tup [.str "left", .int (C : Int), .str "over"], .tup [.str "top", .int (R : Int), .str "under"], .tup [.str "down", .int 1, .str "over"], .tup [.str "right", .int 1, .str "in"], .tup [.str "right", .int 1], .lst [.str "right", .int 1, .str "over"], .tup [.str "bottom", .int (-1), .str "over"], .non]) (.int (k : Int)) = some q ∧ badFold (t0 R C) q := by
  have hb := Bd0 h.r h.c h.s
  have w3 : F_is_fold [.tup [.str "down", .int 1, .str "over"]] = .ok (.bl false) .non := by kernel_rfl
  have w4 : F_is_fold [.tup [.str "right", .int 1, .str "in"]] = .ok (.bl false) .non := by kernel_rfl
  have w5 : F_is_fold [.tup [.str "right", .int 1]] = .ok (.bl false) .non := by kernel_rfl
  have w6 : F_is_fold [.lst [.str "right", .int 1, .str "over"]] = .ok (.bl false) .non := by kernel_rfl
  have w7 : F_is_fold [.tup [.str "bottom", .int (-1), .str "over"]] = .ok (.bl true) .non := by kernel_rfl
  have w8 : F_is_fold [.non] = .ok (.bl false) .non := by kernel_rfl
  rcases (show k = 0 ∨ k = 1 ∨ k = 2 ∨ k = 3 ∨ k = 4 ∨ k = 5 ∨ k = 6 ∨ k = 7 ∨ k = 8 by omega) with rfl | rfl | rfl | rfl | rfl | rfl | rfl | rfl | rfl
  · exact ⟨_, rfl, .inr ⟨is_fold_ok (.right, 0, true), one_bad (s := .right) hb (by omega)⟩⟩
  · exact ⟨_, rfl, .inr ⟨is_fold_ok (.left, C, true), one_bad (s := .left) hb (by simp [dimF, t0])⟩⟩
  · exact ⟨_, rfl, .inr ⟨is_fold_ok (.top, R, false), one_bad (s := .top) hb (by simp [dimF, t0])⟩⟩
  · exact ⟨_, rfl, .inl w3⟩
  · exact ⟨_, rfl, .inl w4⟩
  · exact ⟨_, rfl, .inl w5⟩
  · exact ⟨_, rfl, .inl w6⟩
  · exact ⟨_, rfl, .inr ⟨w7, one_bad (s := .bottom) hb (by omega)⟩⟩
  · exact ⟨_, rfl, .inl w8⟩
theorem asg_folds {F : List PV → FR} {a0 : PV} {ds2 ds3 : List Int} {R C : Nat} {s2 s5 s6 s7 s8 s9 s10 s11 : Sl} {P Q : PV} (ef : F [dk ds2, .int (R : Int), .int (C : Int)] = .ok (.tup [P, Q]) (dk ds3)) : (sAsg (dCallIo F 1 (dCons (dVar 3) (dCons (dVar 4) dNil))) (gTup (gsCons (gName 5) (gsCons (gName 6) gsNil)))) [.sh a0, .ow (dk ds2), s2, .sh (.int (R : Int)), .sh (.int (C : Int)), s5, s6, s7, s8, s9, s10, s11] = .nx [.sh a0, .ow (dk ds3), s2, .sh (.int (R : Int)), .sh (.int (C : Int)), .sh P, .sh Q, s7, s8, s9, s10, s11] := by
  simp [ef]
theorem turn_ok {a0 : PV} {ds : List Int} {s2 s3 s4 s5 s6 s7 s8 s9 s10 s11 : Sl} : ∃ ds' t3 t4 t5 t6 t7 t8 t10 a, a < 2 ∧ B_law_1 (lwE a0 ds s2 s3 s4 s5 s6 s7 s8 s9 s10 s11) = .nx (lwE a0 ds' s2 t3 t4 t5 t6 t7 t8 (.sh (.int ((a : Nat) : Int))) t10 s11) := by
  obtain ⟨v1, ds1, h1, e1⟩ := take_nat ds 4 (by omega)
  obtain ⟨v2, ds2, h2, e2⟩ := take_nat ds1 5 (by omega)
  have e1 : F_take [dk ds, .int 4] = .ok (.int (v1 : Int)) (dk ds1) := e1
  have e2 : F_take [dk ds1, .int 5] = .ok (.int (v2 : Int)) (dk ds2) := e2
  obtain ⟨R, hR⟩ : ∃ R, R = 1 + v1 := ⟨_, rfl⟩
  obtain ⟨C, hC⟩ : ∃ C, C = 1 + v2 := ⟨_, rfl⟩
  have cR : 1 + (v1 : Int) = (R : Int) := by omega
  have cC : 1 + (v2 : Int) = (C : Int) := by omega
  have dim : Dim R C := ⟨by omega, by omega, by omega, Nat.le_trans (Nat.mul_le_mul (show R ≤ 4 by omega) (show C ≤ 5 by omega)) (by omega)⟩
  obtain ⟨ds3, ys, ef, k, r1, c1⟩ := F_folds_ok (ds := ds2) dim
  obtain ⟨a, ds4, ha, e4⟩ := take_nat ds3 2 (by omega)
  have e4 : F_take [dk ds3, .int 2] = .ok (.int (a : Int)) (dk ds4) := e4
  obtain ⟨w, ds5, hw, e5⟩ := take_nat ds4 9 (by omega)
  have e5 : F_take [dk ds4, .int 9] = .ok (.int (w : Int)) (dk ds5) := e5
  obtain ⟨q, hq, bq⟩ := bad_ix dim w hw
  have hb := runF_Bd (Bd0 dim.r dim.c dim.s) k
  have hy : ys.length ≤ 1000 := by
    have go : ∀ (ys : List Fold) (t : SS), Bd t → okAll t ys → ys.length + 2 ≤ t.R + t.C := by
      intro ys
      induction ys with
      | nil => intro t h _; have := h.r; have := h.c; simp; omega
      | cons x xs ih =>
        intro t h k
        have z := ih _ (h.step k.1) k.2
        have sz' : (stepF t x).R + (stepF t x).C + 1 ≤ t.R + t.C := by
          obtain ⟨s, p, ov⟩ := x
          obtain ⟨⟨k1, k2⟩, _⟩ := k
          cases s <;> simp only at k1 k2 <;> simp only [stepF] <;> omega
        rw [List.length_cons]
        omega
    have z := go ys _ (Bd0 dim.r dim.c dim.s) k
    have z2 : (t0 R C).R + (t0 R C).C = R + C := rfl
    omega
  have hp := F_heap_ok dim k r1 c1
  have lp := F_lplain_eq (R := R) (C := C) (by omega) (by omega)
  have i0 := run_row hb.r
  have i1 : gIx (rowP (runF (t0 R C) ys).C ((runF (t0 R C) ys).f 0)) (.int 0) = some (heapP ((runF (t0 R C) ys).f 0 0)) := row_at hb.c
  have okh := okD_up (okD_up (okD_heap (hb.l' 0 0)))
  have pl := F_plain_eq 7 _ okh
  have ne := plain_ne okh (by omega)
  have rf1 := ref_fold (ask := a) (xs := []) dim trivial bq
  have rf1 : F__law_refusal [.int (a : Int), .int (R : Int), .int (C : Int), .lst [q]] = .ok (.str "fold") .non := rf1
  have bq2 : badFold (runF (t0 R C) ys) (.tup [.str "right", .int 1, .str "over"]) := .inr ⟨is_fold_ok (.right, 1, true), one_bad (s := .right) hb (by rw [show dimF (runF (t0 R C) ys) .right = 1 from c1]; omega)⟩
  have rf2 := ref_fold (ask := a) dim k bq2
  have nf : gNe (.str "fold") (.str "fold") = some (.bl false) := by kernel_rfl
  obtain ⟨ρ, k1, s8', k2, k3⟩ := dLoop_inv (tgt := gName 8) (body := B_law_2) (items := rangeP 0 (ys.length + 1)) (ρ0 := lwE a0 ds3 s2 (.sh (.int (R : Int))) (.sh (.int (C : Int))) (.sh (.lst (ys.map foldP))) (.sh (runF (t0 R C) ys).P) (.sh (t0 R C).P) s8 s9 s10 s11)
    (fun i ρ => ∃ s8, i ≤ ys.length + 1 ∧ ρ = lwE a0 ds3 s2 (.sh (.int (R : Int))) (.sh (.int (C : Int))) (.sh (.lst (ys.map foldP))) (.sh (runF (t0 R C) ys).P) (.sh (runF (t0 R C) (ys.take i)).P) s8 s9 s10 s11)
    (fun i x ρ hx hi => by
      obtain ⟨hie, rfl⟩ := rangeP_get hx
      obtain ⟨s8, _, rfl⟩ := hi
      rw [Int.zero_add]
      exact ⟨_, _, rfl, .inl (pre_body dim k (by omega) hy), _, by omega, rfl⟩) ⟨s8, by omega, rfl⟩
  subst k3
  have z2 := szn (show 2 ≤ 1000000 by omega)
  have z3 := szn (show 3 ≤ 1000000 by omega)
  have z4 := szn (show 4 ≤ 1000000 by omega)
  have z5 := szn (show 5 ≤ 1000000 by omega)
  have z9 := szn (show 9 ≤ 1000000 by omega)
  have z1 := szn (show 1 ≤ 1000000 by omega)
  have zy := szn (show ys.length + 1 ≤ 1000000 by omega)
  have L2 : sFor (iR1 (dCons (dAdd (dN gLenN (dCons (dVar 5) dNil)) (dC (.int 1))) dNil)) (gName 8) B_law_2 (lwE a0 ds3 s2 (.sh (.int (R : Int))) (.sh (.int (C : Int))) (.sh (.lst (ys.map foldP))) (.sh (runF (t0 R C) ys).P) (.sh (t0 R C).P) s8 s9 s10 s11) = .nx (lwE a0 ds3 s2 (.sh (.int (R : Int))) (.sh (.int (C : Int))) (.sh (.lst (ys.map foldP))) (.sh (runF (t0 R C) ys).P) (.sh (runF (t0 R C) (ys.take (rangeP 0 (ys.length + 1)).length)).P) s8' s9 s10 s11) := by
    have d0 : (dCons (dAdd (dN gLenN (dCons (dVar 5) dNil)) (dC (.int 1))) dNil) (lwE a0 ds3 s2 (.sh (.int (R : Int))) (.sh (.int (C : Int))) (.sh (.lst (ys.map foldP))) (.sh (runF (t0 R C) ys).P) (.sh (t0 R C).P) s8 s9 s10 s11) = .ok [.int ((ys.length + 1 : Nat) : Int)] (lwE a0 ds3 s2 (.sh (.int (R : Int))) (.sh (.int (C : Int))) (.sh (.lst (ys.map foldP))) (.sh (runF (t0 R C) ys).P) (.sh (t0 R C).P) s8 s9 s10 s11) := by
      simp [lwE]
    rw [ap_sFor, ap_iR1, d0]
    simp only [bind_ok]
    rw [rg1_nat (show ys.length + 1 ≤ 1000000000 by omega)]
    simp only [bindS_ok]
    exact k1
  refine ⟨ds5, .sh (.int (R : Int)), .sh (.int (C : Int)), .sh (.lst (ys.map foldP)), .sh (runF (t0 R C) ys).P, .sh (runF (t0 R C) (ys.take (rangeP 0 (ys.length + 1)).length)).P, s8', .sh (.lst [.tup [.str "right", .int 0, .str "over"], .tup [.str "left", .int (C : Int), .str "over"], .tup [.str "top", .int (R : Int), .str "under"], .tup [.str "down", .int 1, .str "over"], .tup [.str "right", .int 1, .str "in"], .tup [.str "right", .int 1], .lst [.str "right", .int 1, .str "over"], .tup [.str "bottom", .int (-1), .str "over"], .non]), a, ha, ?_⟩
  unfold B_law_1
  apply sq_step
  · simp [lwE, e1, cR]
    rfl
  (apply sq_step; focus (simp [e2, cC] <;> rfl))
  apply sq_step
  · exact asg_folds ef
  (apply sq_step; focus (simp [lp] <;> rfl))
  apply sq_step
  · exact L2
  (apply sq_step; focus (simp [lwE, hp, i0, i1, pl, ne] <;> rfl))
  (apply sq_step; focus (simp [e4] <;> rfl))
  (apply sq_step; focus (simp [z2, z3, z4] <;> rfl))
  (apply sq_step; focus (simp [z2, z3, z4, z5, z9] <;> rfl))
  (apply sq_step; focus (simp [e5, hq, z1, rf1, nf, -ap_ixL] <;> rfl))
  simp [z1, z3, zy, rf2, nf]
  rfl
theorem end_ok {a : Nat} (ha : a < 2) : F__law_refusal [.int (a : Int), .int 0, .int 99, .lst []] = .ok (.str "size") .non ∧ F__law_refusal [.int (a : Int), .int 2, .int 0, .lst [.non]] = .ok (.str "size") .non ∧ F__law_refusal [.int (a : Int), .int 13, .int 5, .lst [.non]] = .ok (.str "leaves") .non := by
  rcases (show a = 0 ∨ a = 1 by omega) with rfl | rfl <;> exact ⟨by kernel_rfl, by kernel_rfl, by kernel_rfl⟩
theorem top_ok : F_top := by
  intro ns hns
  obtain ⟨ds0, e0⟩ := F_deck_eq (ns := ns) (c := 60) (e := 14) (by rw [sizeLine_eq]; omega) (by omega) (by omega)
  generalize ha0 : PV.klst (ns.map .int) = a0 at *
  have e0 : F_deck [a0, .int 60, .int 14] = .ok (dk ds0) .non := e0
  obtain ⟨ds1, x3, x4, x5, x6, x7, x8, x10, a1, g1, k1⟩ := turn_ok (a0 := a0) (ds := ds0) (s2 := .sh (.int 0)) (s3 := .un) (s4 := .un) (s5 := .un) (s6 := .un) (s7 := .un) (s8 := .un) (s9 := .un) (s10 := .un) (s11 := .un)
  obtain ⟨ds2, y3, y4, y5, y6, y7, y8, y10, a2, g2, k2⟩ := turn_ok (a0 := a0) (ds := ds1) (s2 := .sh (.int 1)) (s3 := x3) (s4 := x4) (s5 := x5) (s6 := x6) (s7 := x7) (s8 := x8) (s9 := .sh (.int (a1 : Int))) (s10 := x10) (s11 := .un)
  obtain ⟨f1, f2, f3⟩ := end_ok g2
  have fe : gEq (.lst [.str "size", .str "size", .str "leaves"]) (.lst [.str "size", .str "size", .str "leaves"]) = some (.bl true) := by kernel_rfl
  have z3 := szn (show 3 ≤ 1000000 by omega)
  have z1 := szn (show 1 ≤ 1000000 by omega)
  have hr : rangeP 0 2 = [.int 0, .int 1] := rfl
  have L : sFor (iR1 (dCons (dC (.int 2)) dNil)) (gName 2) B_law_1 (lwE a0 ds0 .un .un .un .un .un .un .un .un .un .un) = .nx (lwE a0 ds2 (.sh (.int 1)) y3 y4 y5 y6 y7 y8 (.sh (.int (a2 : Int))) y10 .un) := by
    have r2 : rg1 [.int 2] (lwE a0 ds0 .un .un .un .un .un .un .un .un .un .un) = .ok (rangeP 0 2) (lwE a0 ds0 .un .un .un .un .un .un .un .un .un .un) := rg1_nat (n := 2) (by omega)
    simp only [ap_sFor, ap_iR1, ap_dCons, ap_dC, ap_dNil, bind_ok, r2, bindS_ok, hr]
    rw [dLoop]
    simp only [ap_gName]
    rw [show (lwE a0 ds0 .un .un .un .un .un .un .un .un .un .un).set 2 (.sh (.int 0)) = lwE a0 ds0 (.sh (.int 0)) .un .un .un .un .un .un .un .un .un from rfl, k1]
    simp only
    rw [dLoop]
    simp only [ap_gName]
    rw [show (lwE a0 ds1 (.sh (.int 0)) x3 x4 x5 x6 x7 x8 (.sh (.int (a1 : Int))) x10 .un).set 2 (.sh (.int 1)) = lwE a0 ds1 (.sh (.int 1)) x3 x4 x5 x6 x7 x8 (.sh (.int (a1 : Int))) x10 .un from rfl, k2]
    rfl
  refine ⟨.non, ?_⟩
  have D : ∃ ρ, den_law [.sh a0, .un, .un, .un, .un, .un, .un, .un, .un, .un, .un, .un] = .rt (.bl true) ρ := by
    refine ⟨lwE a0 ds2 (.sh (.int 1)) y3 y4 y5 y6 y7 y8 (.sh (.int (a2 : Int))) y10 (.sh (.lst [.str "size", .str "size", .str "leaves"])), ?_⟩
    unfold den_law
    (apply sq_step; focus (simp [e0] <;> rfl))
    apply sq_step
    · exact L
    (apply sq_step; focus (simp [lwE, z1, z3, szn, f1, f2, f3] <;> rfl))
    simp [z3, fe, lwE]
  obtain ⟨ρ, D⟩ := D
  exact run_rt D
end PL.K72

set_option Elab.async false
set_option linter.all false
set_option maxRecDepth 100000
set_option maxHeartbeats 0
open PySem PySem.W PySem.Calls PyProof.Rows
theorem PySem.Challenge.cw_presswork_k72_whole_sheets_folded_holds : PySem.Challenge.rw_presswork_k72_whole_sheets_folded.Holds := by
  w_on; o_law
  refine HandSHeadRun.head_any (H := PL.K72.hk) (ob := PL.K72.ob) (d := HandSHeadRun.topDef (OpenLaw.row PySem.Challenge.rw_presswork_k72_whole_sheets_folded).prog 28) (kwd := []) PL.K72.ob_eq
    (by kernel_rfl) (fun s => by kernel_rfl) PL.K72.run (by kernel_rfl) (by kernel_rfl) (by kernel_rfl) (by rfl) (by first | assumption | decide +kernel) (by decide +kernel) ⟨rfl, rfl, rfl, rfl, rfl, by decide +kernel⟩ ?hw ?hc
  case hw => w_witness2
  case hc =>
    refine L2.walk_ofE (l := PySem.Challenge.rw_presswork_k72_whole_sheets_folded) (n := 63) (k := 9) (x := "script") (CX := PL.CXA PySem.Challenge.pw_presswork_k72_whole_sheets_folded) rfl (by decide) (by kernel_rfl) ⟨rfl, by decide, by decide⟩ ?F PL.CXA.none
    case F =>
      intro w mg fa h Y G hmg0
      obtain ⟨K, KX, c⟩ := Y
      have hmg : mg ("law" : PySem.Str) = some (.ref fa) := by
        have e : (HandSHeadRun.topDef (OpenLaw.row PySem.Challenge.rw_presswork_k72_whole_sheets_folded).prog 28).name = ("law" : PySem.Str) := by kernel_rfl
        rw [← e]
        exact hmg0
      obtain ⟨fd, hb, hF⟩ := PL.K72.facts PL.K72.top_ok (P := PySem.Challenge.pw_presswork_k72_whole_sheets_folded) (w := w) KX G hmg c
      exact ⟨K, fd, PL.spTop K, KX, hb, fun H a ns hl _ hS => ⟨a, ns, rfl, hl, hS, fun _ => rfl⟩, fun base h1 h2 => PL.FnOk.anyW (hF base h1 h2)⟩

