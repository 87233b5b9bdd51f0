import PyProof.Rows.All
import HandS.ForMost
import HandS.ForExc
import HandS.CallSlots
import HandS.HeadHook1
import HandS.TupAny
import HandS.Deep
import HandS.IsInst
import HandS.ExcInit
import HandS.ExcField
import HandS.TryMany
import HandS.SortInts
import HandS.Wide
import HandS.Flow
import HandS.ExcOwn
import HandS.Defaults
import HandS.HeadHook4
import HandS.HeadEnd
import HandS.Head2
import HandS.Style
import HandS.Gcd
import HandS.Conv
import HandS.SetFor
import HandS.Strs
import HandS.Codes
import KE.DataCmp
import KE.SortData
import KE.DataMinMax
import HandS.Small
import HandS.DictComp
import HandS.Flt
import KE.KTupSum
import PyProof.AutoSeq1
import HandS.Head3
import PySem.Challenge.RW_presswork_k95_whole_lines_and_pages_alik
set_option Elab.async false
set_option linter.all false
set_option maxRecDepth 100000
set_option maxHeartbeats 4000000
namespace PL
open PySem PySem.Spec L2
set_option autoImplicit false

/-! ### plain values and how the heap bears them -/
inductive PV where
  | non | bl (b : Bool) | int (i : Int) | str (x : Str) | lst (xs : List PV) | tup (xs : List PV) | ktup (xs : List PV) | klst (xs : List PV) | dic (t : Bool) (ks : List PV) (vs : List PV) | fn (a : Str) | obj (c : Str) (ks : List Str) (vs : List PV)
instance : Inhabited PV := ⟨.non⟩

def keyPV : Key → PV
  | .inl i => .int i
  | .inr x => .str x
mutual
inductive Rep (K : PySem.W.Frag) (S : Hp) : PV → V → Prop
  | non : Rep K S .non .non
  | bl (b : Bool) : Rep K S (.bl b) (.bl b)
  | int (i : Int) : Rep K S (.int i) (.int i)
  | str (x : Str) : Rep K S (.str x) (.str x)
  | fn (a : Str) : Rep K S (.fn a) (.ref (He.ga K a))
  | lst {a : Addr} {vs : List V} {ps : List PV} : S a = some (.lst vs) → RepL K S ps vs → Rep K S (.lst ps) (.ref a)
  | tup {a : Addr} {vs : List V} {ps : List PV} : S a = some (.tup vs) → RepL K S ps vs → Rep K S (.tup ps) (.ref a)
  | ktup {a : Addr} {vs : List V} {ps : List PV} : SqT K S a vs → RepL K S ps vs → Rep K S (.ktup ps) (.ref a)
  | klst {a : Addr} {vs : List V} {ps : List PV} : SqL K S a vs → RepL K S ps vs → Rep K S (.klst ps) (.ref a)
  | dK {a : Addr} {kvs : List (Key × V)} {ps : List PV} : Rd S a (.dK kvs) → RepL K S ps (kvs.map (·.2)) → Rep K S (.dic false (kvs.map fun p => keyPV p.1) ps) (.ref a)
  | dT {a : Addr} {kvs : List (List Key × V)} {ps : List PV} : Rd S a (.dT kvs) → RepL K S ps (kvs.map (·.2)) → Rep K S (.dic true (kvs.map fun p => .tup (p.1.map keyPV)) ps) (.ref a)
  | obj {a dx : Addr} {c : Str} {fs : List (Str × V)} {ps : List PV} : S a = some (.ins (He.ga K c) dx fs) → RepL K S ps (fs.map (·.2)) → Rep K S (.obj c (fs.map (·.1)) ps) (.ref a)
inductive RepL (K : PySem.W.Frag) (S : Hp) : List PV → List V → Prop
  | nil : RepL K S [] []
  | cons {p : PV} {v : V} {ps : List PV} {vs : List V} : Rep K S p v → RepL K S ps vs → RepL K S (p :: ps) (v :: vs)
end
theorem _root_.L2.Rd.same {H H' : Hp} {a : Addr} {u : HO} (h : Rd H a u) (e : Same H H') : Rd H' a u := by
  rcases h with h | ⟨o, h⟩
  · exact .inl (e _ _ h)
  · exact .inr ⟨o, e _ _ h⟩
theorem Same.tupK {K : PySem.W.Frag} {H H' : Hp} {a : Addr} {xs : List V} (e : Same H H') (h : SqT K H a xs) : SqT K H' a xs := by
  rcases h with (h | ⟨o, h⟩) | h
  · exact .inl (.inl (e _ _ h))
  · exact .inl (.inr ⟨o, e _ _ h⟩)
  · exact .inr h
theorem Same.lstK {K : PySem.W.Frag} {H H' : Hp} {a : Addr} {xs : List V} (e : Same H H') (h : SqL K H a xs) : SqL K H' a xs := by
  rcases h with (h | ⟨o, h⟩) | h
  · exact .inl (.inl (e _ _ h))
  · exact .inl (.inr ⟨o, e _ _ h⟩)
  · exact .inr h
section
variable {K : PySem.W.Frag} {S S' : Hp}
mutual
theorem Rep.mono (e : Same S S') : ∀ (p : PV) (v : V), Rep K S p v → Rep K S' p v
  | .non, _, h => by cases h; exact .non
  | .bl b, _, h => by cases h; exact .bl b
  | .int i, _, h => by cases h; exact .int i
  | .str x, _, h => by cases h; exact .str x
  | .fn a, _, h => by cases h; exact .fn a
  | .obj c ks ps, _, h => by cases h with | obj h1 h2 => exact .obj (e _ _ h1) (RepL.mono e ps _ h2)
  | .lst ps, _, h => by cases h with | lst h1 h2 => exact .lst (e _ _ h1) (RepL.mono e ps _ h2)
  | .tup ps, _, h => by cases h with | tup h1 h2 => exact .tup (e _ _ h1) (RepL.mono e ps _ h2)
  | .ktup ps, _, h => by cases h with | ktup h1 h2 => exact .ktup (Same.tupK e h1) (RepL.mono e ps _ h2)
  | .klst ps, _, h => by cases h with | klst h1 h2 => exact .klst (Same.lstK e h1) (RepL.mono e ps _ h2)
  | .dic t ks ps, _, h => by
    cases h with
    | dK h1 h2 => exact .dK (h1.same e) (RepL.mono e ps _ h2)
    | dT h1 h2 => exact .dT (h1.same e) (RepL.mono e ps _ h2)
theorem RepL.mono (e : Same S S') : ∀ (ps : List PV) (vs : List V), RepL K S ps vs → RepL K S' ps vs
  | [], _, h => by cases h; exact .nil
  | p :: ps, _, h => by cases h with | cons h1 h2 => exact .cons (Rep.mono e p _ h1) (RepL.mono e ps _ h2)
end
theorem Rep.up (e : Same S S') {p : PV} {v : V} (h : Rep K S p v) : Rep K S' p v := Rep.mono e p v h
theorem RepL.up (e : Same S S') {p : List PV} {v : List V} (h : RepL K S p v) : RepL K S' p v := RepL.mono e p v h
theorem RepL.length : ∀ {ps : List PV} {vs : List V}, RepL K S ps vs → ps.length = vs.length
  | [], _, h => by cases h; rfl
  | _ :: _, _, h => by cases h with | cons _ h2 => simp [RepL.length h2]
theorem RepL.append : ∀ {ps : List PV} {vs : List V} {qs : List PV} {ws : List V}, RepL K S ps vs → RepL K S qs ws → RepL K S (ps ++ qs) (vs ++ ws)
  | [], _, _, _, h, h' => by cases h; exact h'
  | _ :: _, _, _, _, h, h' => by cases h with | cons h1 h2 => exact .cons h1 (RepL.append h2 h')
theorem RepL.get : ∀ {ps : List PV} {vs : List V} {i : Nat} {p : PV}, RepL K S ps vs → ps[i]? = some p → ∃ v, vs[i]? = some v ∧ Rep K S p v
  | [], _, _, _, _, e => by simp at e
  | q :: ps, _, 0, p, h, e => by cases h with | cons h1 h2 => simp at e; subst e; exact ⟨_, rfl, h1⟩
  | q :: ps, _, i + 1, p, h, e => by
    cases h with
    | cons h1 h2 =>
      obtain ⟨v, e1, r⟩ := RepL.get (i := i) h2 (by simpa using e)
      exact ⟨v, by simpa using e1, r⟩
theorem RepL.get' : ∀ {ps : List PV} {vs : List V} {i : Nat} {v : V}, RepL K S ps vs → vs[i]? = some v → ∃ p, ps[i]? = some p ∧ Rep K S p v
  | [], _, _, _, h, e => by cases h; simp at e
  | q :: ps, _, 0, p, h, e => by cases h with | cons h1 h2 => simp at e; subst e; exact ⟨_, rfl, h1⟩
  | q :: ps, _, i + 1, p, h, e => by
    cases h with
    | cons h1 h2 =>
      obtain ⟨v, e1, r⟩ := RepL.get' (i := i) h2 (by simpa using e)
      exact ⟨v, by simpa using e1, r⟩
theorem RepL.set {p : PV} {v : V} (r : Rep K S p v) : ∀ {ps : List PV} {vs : List V} (i : Nat), RepL K S ps vs → RepL K S (ps.set i p) (vs.set i v)
  | [], _, _, h => by cases h; exact .nil
  | _ :: _, _, 0, h => by cases h with | cons h1 h2 => exact .cons r h2
  | _ :: _, _, i + 1, h => by cases h with | cons h1 h2 => exact .cons h1 (RepL.set r i h2)
theorem RepL.take : ∀ {ps : List PV} {vs : List V} (n : Nat), RepL K S ps vs → RepL K S (ps.take n) (vs.take n)
  | _, _, 0, h => by simp; exact .nil
  | [], _, _ + 1, h => by cases h; exact .nil
  | _ :: _, _, n + 1, h => by cases h with | cons h1 h2 => exact .cons h1 (RepL.take n h2)
theorem RepL.drop : ∀ {ps : List PV} {vs : List V} (n : Nat), RepL K S ps vs → RepL K S (ps.drop n) (vs.drop n)
  | _, _, 0, h => h
  | [], _, _ + 1, h => by cases h; exact .nil
  | _ :: _, _, n + 1, h => by cases h with | cons h1 h2 => exact RepL.drop n h2
theorem RepL.reverse : ∀ {ps : List PV} {vs : List V}, RepL K S ps vs → RepL K S ps.reverse vs.reverse
  | [], _, h => by cases h; exact .nil
  | _ :: _, _, h => by cases h with | cons h1 h2 => rw [List.reverse_cons, List.reverse_cons]; exact RepL.append (RepL.reverse h2) (.cons h1 .nil)
theorem RepL.dropLast {ps : List PV} {vs : List V} (h : RepL K S ps vs) : RepL K S ps.dropLast vs.dropLast := by
  rw [List.dropLast_eq_take, List.dropLast_eq_take, ← h.length]
  exact h.take _
theorem RepL.eraseIdx : ∀ {ps : List PV} {vs : List V} (n : Nat), RepL K S ps vs → RepL K S (ps.eraseIdx n) (vs.eraseIdx n)
  | [], _, _, h => by cases h; exact .nil
  | _ :: _, _, 0, h => by cases h with | cons h1 h2 => exact h2
  | _ :: _, _, n + 1, h => by cases h with | cons h1 h2 => exact .cons h1 (RepL.eraseIdx n h2)
theorem RepL.replicate {p : PV} {v : V} (r : Rep K S p v) : ∀ n, RepL K S (List.replicate n p) (List.replicate n v)
  | 0 => .nil
  | n + 1 => .cons r (RepL.replicate r n)
end

/-- what an owned object at the top is -/
def OwnO (K : PySem.W.Frag) (S : Hp) : PV → HO → Prop
  | .lst ps, .lst vs => RepL K S ps vs
  | .dic false ks ps, .dK kvs => ks = kvs.map (fun p => keyPV p.1) ∧ RepL K S ps (kvs.map (·.2))
  | .dic true ks ps, .dT kvs => ks = kvs.map (fun p => .tup (p.1.map keyPV)) ∧ RepL K S ps (kvs.map (·.2))
  | .obj c ks ps, .ins C _ fs => C = He.ga K c ∧ ks = fs.map (·.1) ∧ RepL K S ps (fs.map (·.2))
  | _, _ => False
theorem OwnO.up {K : PySem.W.Frag} {S S' : Hp} (e : Same S S') {p : PV} {o : HO} (h : OwnO K S p o) : OwnO K S' p o := by
  unfold OwnO at h ⊢
  split at h
  · exact h.up e
  · exact ⟨h.1, h.2.up e⟩
  · exact ⟨h.1, h.2.up e⟩
  · exact ⟨h.1, h.2.1, h.2.2.up e⟩
  · exact h.elim
theorem OwnO.noTup {K : PySem.W.Frag} {S : Hp} {p : PV} {vs : List V} (h : OwnO K S p (.tup vs)) : False := by
  unfold OwnO at h
  split at h <;> first | exact h | contradiction
theorem OwnO.rep {K : PySem.W.Frag} {S : Hp} {p : PV} {o : HO} {a : Addr} (h : OwnO K S p o) (e : S a = some o) : Rep K S p (.ref a) := by
  unfold OwnO at h
  split at h
  · exact .lst e h
  · obtain ⟨rfl, h⟩ := h
    exact .dK (.inl e) h
  · obtain ⟨rfl, h⟩ := h
    exact .dT (.inl e) h
  · obtain ⟨rfl, rfl, h⟩ := h
    exact .obj e h
  · exact h.elim

/-! ### slots -/
inductive Sl where
  | un | sh (p : PV) | ow (p : PV) | io (p : PV)
abbrev Env := List Sl
def Sl.own? : Sl → Option PV
  | .ow p => some p
  | .io p => some p
  | _ => none
def Sl.with : Sl → PV → Sl
  | .ow _, q => .ow q
  | .io _, q => .io q
  | s, _ => s
/-- new, or a tuple (no one's own) -/
def NT (H : Hp) (b : Addr) (o : HO) : Prop := H b = none ∨ ∃ vs, o = .tup vs
theorem NT.back {H H' : Hp} {b : Addr} {o : HO} (h : NT H' b o) (e : Same H H') : NT H b o := by
  rcases h with h | h
  · exact .inl (e.free h)
  · exact .inr h
structure Abs (K : PySem.W.Frag) (H₀ S₀ : Hp) (M : Addr → Prop) (S : Hp) (σ : St) (H : Hp) (ρ : Env) : Prop where
  len : ρ.length = σ.length
  sub : Same S H
  base : Same S₀ S
  grow : ∀ b o, S b = some o → S₀ b = some o ∨ NT H₀ b o
  keep : ∀ b o, H₀ b = some o → ¬ M b → H b = some o
  there : ∀ b o, H₀ b = some o → ∃ o', H b = some o'
  sh : ∀ (i : Nat) p, ρ[i]? = some (.sh p) → ∃ v, σ[i]? = some (some v) ∧ Rep K S p v
  own : ∀ (i : Nat) s p, ρ[i]? = some s → s.own? = some p → ∃ a o, σ[i]? = some (some (.ref a)) ∧ (s = .ow p → H₀ a = none) ∧ (s = .io p → M a) ∧ S a = none ∧ H a = some o ∧ OwnO K S p o
  dis : ∀ (i j : Nat) s t p q a, ρ[i]? = some s → s.own? = some p → ρ[j]? = some t → t.own? = some q → σ[i]? = some (some (.ref a)) → σ[j]? = some (some (.ref a)) → i = j
/-- new objects alone -/
structure Step (S H S' H' : Hp) : Prop where
  s : Same S S'
  h : Same H H'
  sub : Same S' H'
  new : ∀ b o, S' b = some o → S b = some o ∨ NT H b o
theorem Step.refl {S H : Hp} (h : Same S H) : Step S H S H := ⟨Same.refl _, Same.refl _, h, fun _ _ e => .inl e⟩
theorem Step.trans {S H S1 H1 S2 H2 : Hp} (a : Step S H S1 H1) (b : Step S1 H1 S2 H2) : Step S H S2 H2 :=
  ⟨a.s.trans b.s, a.h.trans b.h, b.sub, fun c o e => by
    rcases b.new c o e with h | h
    · exact a.new c o h
    · exact .inr (h.back a.h)⟩
theorem same_upd {H : Hp} {p : Addr} {o : HO} (h : H p = none) : Same H (upd H p o) := fun b x e => by
  rw [upd_ne (ne_of_none e h)]
  exact e
theorem Same.updB {S H : Hp} {p : Addr} {o : HO} (h : Same S H) : Same (upd S p o) (upd H p o) := fun b x e => by
  by_cases hb : b = p
  · subst hb; rw [upd_same] at e ⊢; exact e
  · rw [upd_ne hb] at e ⊢; exact h _ _ e
/-- one new object, shared -/
theorem Step.new1 {S H : Hp} {p : Addr} {o : HO} (h : Same S H) (n : H p = none) : Step S H (upd S p o) (upd H p o) :=
  ⟨same_upd (Same.free h n), same_upd n, Same.updB h, fun b x e => by
    by_cases hb : b = p
    · subst hb; exact .inr (.inl n)
    · rw [upd_ne hb] at e; exact .inl e⟩
/-- .. not shared -/
theorem Step.hid {S H : Hp} {p : Addr} {o : HO} (h : Same S H) (n : H p = none) : Step S H S (upd H p o) :=
  ⟨Same.refl _, same_upd n, h.trans (same_upd n), fun b x e => .inl e⟩
section
variable {K : PySem.W.Frag} {H₀ S₀ : Hp} {M : Addr → Prop} {S S' H H' : Hp} {σ : St} {ρ : Env}
theorem Abs.rebase (a : Abs K H₀ S₀ M S σ H ρ) : Abs K H₀ S M S σ H ρ := ⟨a.len, a.sub, Same.refl _, fun _ _ e => .inl e, a.keep, a.there, a.sh, a.own, a.dis⟩
theorem Abs.unbase {σ' : St} {ρ' : Env} (a : Abs K H₀ S₀ M S σ H ρ) (b : Abs K H₀ S M S' σ' H' ρ') : Abs K H₀ S₀ M S' σ' H' ρ' :=
  ⟨b.len, b.sub, a.base.trans b.base, fun c o e => by
    rcases b.grow c o e with h | h
    · exact a.grow c o h
    · exact .inr h, b.keep, b.there, b.sh, b.own, b.dis⟩
theorem Abs.none0 (a : Abs K H₀ S₀ M S σ H ρ) {b : Addr} (h : H b = none) : H₀ b = none := by
  cases e : H₀ b with
  | none => rfl
  | some o =>
    obtain ⟨o', e'⟩ := a.there b o e
    rw [h] at e'; cases e'
theorem Abs.nt0 (a : Abs K H₀ S₀ M S σ H ρ) {b : Addr} {o : HO} (h : NT H b o) : NT H₀ b o := by
  rcases h with h | h
  · exact .inl (a.none0 h)
  · exact .inr h
theorem Abs.step (a : Abs K H₀ S₀ M S σ H ρ) (t : Step S H S' H') : Abs K H₀ S₀ M S' σ H' ρ where
  len := a.len
  sub := t.sub
  base := a.base.trans t.s
  grow := fun b o e => by
    rcases t.new b o e with h | h
    · exact a.grow b o h
    · exact .inr (a.nt0 h)
  keep := fun b o e n => t.h _ _ (a.keep b o e n)
  there := fun b o e => by
    obtain ⟨o', h⟩ := a.there b o e
    exact ⟨o', t.h _ _ h⟩
  sh := fun i p e => by
    obtain ⟨v, h1, h2⟩ := a.sh i p e
    exact ⟨v, h1, h2.up t.s⟩
  own := fun i s p e e' => by
    obtain ⟨b, o, h1, h2, h3, h4, h5, h6⟩ := a.own i s p e e'
    refine ⟨b, o, h1, h2, h3, ?_, t.h _ _ h5, h6.up t.s⟩
    cases q : S' b with
    | none => rfl
    | some o' =>
      rcases t.new b o' q with z | z | ⟨vs, z⟩
      · rw [h4] at z; cases z
      · rw [h5] at z; cases z
      · subst z
        have z := (t.sub _ _ q).symm.trans (t.h _ _ h5)
        cases z
        exact (OwnO.noTup h6).elim
  dis := a.dis
/-- an owned slot becomes shared -/
theorem Abs.share {i : Nat} {p : PV} (a : Abs K H₀ S₀ M S σ H ρ) (e : ρ[i]? = some (.ow p)) :
    ∃ b S', σ[i]? = some (some (.ref b)) ∧ Same S S' ∧ Abs K H₀ S₀ M S' σ H (ρ.set i (.sh p)) ∧ Rep K S' p (.ref b) := by
  obtain ⟨b, o, h1, h2, h3, h4, h5, h6⟩ := a.own i _ p e rfl
  have hs : Same S (upd S b o) := same_upd h4
  have hr : Rep K (upd S b o) p (.ref b) := (h6.up hs).rep upd_same
  have hi : i < ρ.length := (List.getElem?_eq_some_iff.mp e).1
  refine ⟨b, upd S b o, h1, hs, ?_, hr⟩
  refine ⟨by rw [List.length_set]; exact a.len, fun c o' q => ?_, a.base.trans hs, fun c o' q => ?_, a.keep, a.there, fun j q ej => ?_, fun j s q ej es => ?_, fun j k s t q r c ej es ek et h k' => ?_⟩
  · by_cases hc : c = b
    · subst hc; rw [upd_same] at q; cases q; exact h5
    · rw [upd_ne hc] at q; exact a.sub _ _ q
  · by_cases hc : c = b
    · subst hc; exact .inr (.inl (h2 rfl))
    · rw [upd_ne hc] at q; exact a.grow _ _ q
  · by_cases hj : j = i
    · subst hj
      rw [List.getElem?_set_self hi] at ej
      cases ej
      exact ⟨_, h1, hr⟩
    · rw [List.getElem?_set_ne (Ne.symm hj)] at ej
      obtain ⟨v, z1, z2⟩ := a.sh j q ej
      exact ⟨v, z1, z2.up hs⟩
  · by_cases hj : j = i
    · subst hj
      rw [List.getElem?_set_self hi] at ej
      cases ej
      cases es
    · rw [List.getElem?_set_ne (Ne.symm hj)] at ej
      obtain ⟨c, o', z1, z2, z3, z4, z5, z6⟩ := a.own j s q ej es
      refine ⟨c, o', z1, z2, z3, ?_, z5, z6.up hs⟩
      rw [upd_ne, z4]
      intro hcb
      subst hcb
      exact hj (a.dis j i _ _ _ _ c ej es e rfl z1 h1)
  · by_cases hj : j = i
    · subst hj
      rw [List.getElem?_set_self hi] at ej
      cases ej
      cases es
    · by_cases hk : k = i
      · subst hk
        rw [List.getElem?_set_self hi] at ek
        cases ek
        cases et
      · rw [List.getElem?_set_ne (Ne.symm hj)] at ej
        rw [List.getElem?_set_ne (Ne.symm hk)] at ek
        exact a.dis j k _ _ _ _ c ej es ek et h k'
/-- a slot gets a shared value -/
theorem Abs.setSh {i : Nat} {p : PV} {v : V} (a : Abs K H₀ S₀ M S σ H ρ) (r : Rep K S p v) : Abs K H₀ S₀ M S (σ.set i (some v)) H (ρ.set i (.sh p)) where
  len := by rw [List.length_set, List.length_set]; exact a.len
  sub := a.sub
  base := a.base
  grow := a.grow
  keep := a.keep
  there := a.there
  sh := fun j q ej => by
    by_cases hj : j = i
    · subst hj
      have hi : j < ρ.length := by
        rcases Nat.lt_or_ge j ρ.length with h | h
        · exact h
        · rw [List.getElem?_eq_none (by rw [List.length_set]; exact h)] at ej; cases ej
      rw [List.getElem?_set_self hi] at ej
      cases ej
      exact ⟨v, List.getElem?_set_self (a.len ▸ hi), r⟩
    · rw [List.getElem?_set_ne (Ne.symm hj)] at ej ⊢
      exact a.sh j q ej
  own := fun j s q ej es => by
    by_cases hj : j = i
    · subst hj
      have hi : j < ρ.length := by
        rcases Nat.lt_or_ge j ρ.length with h | h
        · exact h
        · rw [List.getElem?_eq_none (by rw [List.length_set]; exact h)] at ej; cases ej
      rw [List.getElem?_set_self hi] at ej
      cases ej
      cases es
    · rw [List.getElem?_set_ne (Ne.symm hj)] at ej ⊢
      exact a.own j s q ej es
  dis := fun j k s t q r c ej es ek et h k' => by
    have hl1 : ∀ {j : Nat} {s : Sl} {q : PV}, (ρ.set i (.sh p))[j]? = some s → s.own? = some q → j ≠ i := fun {j s q} ej es hj => by
      subst hj
      have hi : j < ρ.length := by
        rcases Nat.lt_or_ge j ρ.length with h | h
        · exact h
        · rw [List.getElem?_eq_none (by rw [List.length_set]; exact h)] at ej; cases ej
      rw [List.getElem?_set_self hi] at ej
      cases ej
      cases es
    have hj := hl1 ej es
    have hk := hl1 ek et
    rw [List.getElem?_set_ne (Ne.symm hj)] at ej h
    rw [List.getElem?_set_ne (Ne.symm hk)] at ek k'
    exact a.dis j k _ _ _ _ c ej es ek et h k'
/-- a fresh object: new since the entry, no slot owns it, not shared -/
def Fr (K : PySem.W.Frag) (H₀ S H : Hp) (σ : St) (ρ : Env) (p : PV) (v : V) : Prop :=
  ∃ a o, v = .ref a ∧ H₀ a = none ∧ S a = none ∧ H a = some o ∧ OwnO K S p o ∧ ∀ (j : Nat) s q, ρ[j]? = some s → s.own? = some q → σ[j]? ≠ some (some (.ref a))
/-- a slot gets a fresh object -/
theorem Abs.setOw {i : Nat} {p : PV} {v : V} (a : Abs K H₀ S₀ M S σ H ρ) (f : Fr K H₀ S H σ ρ p v) : Abs K H₀ S₀ M S (σ.set i (some v)) H (ρ.set i (.ow p)) := by
  obtain ⟨b, o, rfl, f1, f2, f3, f4, f5⟩ := f
  have lt : ∀ {j : Nat} {s : Sl}, (ρ.set i (.ow p))[j]? = some s → j < ρ.length := fun {j s} ej => by
    rcases Nat.lt_or_ge j ρ.length with h | h
    · exact h
    · rw [List.getElem?_eq_none (by rw [List.length_set]; exact h)] at ej; cases ej
  refine ⟨by rw [List.length_set, List.length_set]; exact a.len, a.sub, a.base, a.grow, a.keep, a.there, fun j q ej => ?_, fun j s q ej es => ?_, fun j k s t q r c ej es ek et h k' => ?_⟩
  · by_cases hj : j = i
    · subst hj
      rw [List.getElem?_set_self (lt ej)] at ej
      cases ej
    · rw [List.getElem?_set_ne (Ne.symm hj)] at ej ⊢
      exact a.sh j q ej
  · by_cases hj : j = i
    · subst hj
      have hi := lt ej
      rw [List.getElem?_set_self hi] at ej
      cases ej
      cases es
      exact ⟨b, o, List.getElem?_set_self (a.len ▸ hi), fun _ => f1, (fun z => nomatch z), f2, f3, f4⟩
    · rw [List.getElem?_set_ne (Ne.symm hj)] at ej ⊢
      exact a.own j s q ej es
  · by_cases hj : j = i
    · by_cases hk : k = i
      · rw [hj, hk]
      · subst hj
        have hl := a.len ▸ lt ej
        rw [List.getElem?_set_self hl] at h
        cases h
        rw [List.getElem?_set_ne (Ne.symm hk)] at ek k'
        exact absurd k' (f5 k _ _ ek et)
    · by_cases hk : k = i
      · subst hk
        have hl := a.len ▸ lt ek
        rw [List.getElem?_set_self hl] at k'
        cases k'
        rw [List.getElem?_set_ne (Ne.symm hj)] at ej h
        exact absurd h (f5 j _ _ ej es)
      · rw [List.getElem?_set_ne (Ne.symm hj)] at ej h
        rw [List.getElem?_set_ne (Ne.symm hk)] at ek k'
        exact a.dis j k _ _ _ _ c ej es ek et h k'
/-- an owned object is changed -/
theorem Abs.mut {i : Nat} {s : Sl} {p q : PV} {b : Addr} {o : HO} (a : Abs K H₀ S₀ M S σ H ρ) (e : ρ[i]? = some s) (es : s.own? = some p) (hb : σ[i]? = some (some (.ref b))) (h : OwnO K S q o) :
    Abs K H₀ S₀ M S σ (upd H b o) (ρ.set i (s.with q)) := by
  obtain ⟨b', o', h1, h2, h3, h4, h5, h6⟩ := a.own i s p e es
  rw [hb] at h1
  cases h1
  have hi : i < ρ.length := (List.getElem?_eq_some_iff.mp e).1
  have hw : (s.with q).own? = some q := by
    cases s with
    | ow r => rfl
    | io r => rfl
    | un => cases es
    | sh r => cases es
  have hn : ∀ c o', S c = some o' → c ≠ b := fun c o' z y => by subst y; rw [h4] at z; cases z
  have hM : ¬ M b → H₀ b = none := fun hM => by
    cases s with
    | ow r => cases es; exact h2 rfl
    | io r => cases es; exact absurd (h3 rfl) hM
    | un => cases es
    | sh r => cases es
  refine ⟨by rw [List.length_set]; exact a.len, fun c o' z => ?_, a.base, a.grow, fun c o' z n => ?_, fun c o' z => ?_, fun j r ej => ?_, fun j t r ej et => ?_, fun j k t u r r' c ej et ek eu z z' => ?_⟩
  · rw [upd_ne (hn c o' z)]; exact a.sub _ _ z
  · by_cases hc : c = b
    · subst hc; rw [hM n] at z; cases z
    · rw [upd_ne hc]; exact a.keep _ _ z n
  · by_cases hc : c = b
    · subst hc; exact ⟨o, upd_same⟩
    · rw [upd_ne hc]; exact a.there _ _ z
  · by_cases hj : j = i
    · subst hj
      rw [List.getElem?_set_self hi] at ej
      have z := Option.some.inj ej
      rw [z] at hw; cases hw
    · rw [List.getElem?_set_ne (Ne.symm hj)] at ej
      exact a.sh j r ej
  · by_cases hj : j = i
    · subst hj
      rw [List.getElem?_set_self hi] at ej
      have z := Option.some.inj ej
      subst z
      rw [hw] at et
      cases et
      refine ⟨b, o, hb, fun z => ?_, fun z => ?_, h4, upd_same, h⟩
      · cases s with
        | ow r => cases es; exact h2 rfl
        | io r => cases z
        | un => cases es
        | sh r => cases es
      · cases s with
        | io r => cases es; exact h3 rfl
        | ow r => cases z
        | un => cases es
        | sh r => cases es
    · rw [List.getElem?_set_ne (Ne.symm hj)] at ej
      obtain ⟨c, o', z1, z2, z3, z4, z5, z6⟩ := a.own j t r ej et
      refine ⟨c, o', z1, z2, z3, z4, ?_, z6⟩
      rw [upd_ne, z5]
      intro hcb
      subst hcb
      exact hj (a.dis j i _ _ _ _ c ej et e es z1 hb)
  · have key : ∀ {j : Nat} {t : Sl} {r : PV}, (ρ.set i (s.with q))[j]? = some t → t.own? = some r → ∃ t' r', ρ[j]? = some t' ∧ t'.own? = some r' := fun {j t r} ej et => by
      by_cases hj : j = i
      · subst hj; exact ⟨s, p, e, es⟩
      · rw [List.getElem?_set_ne (Ne.symm hj)] at ej; exact ⟨t, r, ej, et⟩
    obtain ⟨t1, r1, e1, e2⟩ := key ej et
    obtain ⟨t2, r2, e3, e4⟩ := key ek eu
    exact a.dis j k _ _ _ _ c e1 e2 e3 e4 z z'
/-- what is fresh is shared -/
theorem Abs.shareFr {p : PV} {v : V} (a : Abs K H₀ S₀ M S σ H ρ) (f : Fr K H₀ S H σ ρ p v) : ∃ S', Same S S' ∧ Abs K H₀ S₀ M S' σ H ρ ∧ Rep K S' p v := by
  obtain ⟨b, o, rfl, f1, f2, f3, f4, f5⟩ := f
  have hs : Same S (upd S b o) := same_upd f2
  refine ⟨upd S b o, hs, ⟨a.len, fun c o' q => ?_, a.base.trans hs, fun c o' q => ?_, a.keep, a.there, fun j q ej => ?_, fun j s q ej es => ?_, a.dis⟩, (f4.up hs).rep upd_same⟩
  · by_cases hc : c = b
    · subst hc; rw [upd_same] at q; cases q; exact f3
    · rw [upd_ne hc] at q; exact a.sub _ _ q
  · by_cases hc : c = b
    · subst hc; exact .inr (.inl f1)
    · rw [upd_ne hc] at q; exact a.grow _ _ q
  · obtain ⟨v, z1, z2⟩ := a.sh j q ej
    exact ⟨v, z1, z2.up hs⟩
  · obtain ⟨c, o', z1, z2, z3, z4, z5, z6⟩ := a.own j s q ej es
    refine ⟨c, o', z1, z2, z3, ?_, z5, z6.up hs⟩
    rw [upd_ne, z4]
    intro hcb
    subst hcb
    exact f5 j s q ej es z1
/-- a new object, fresh -/
theorem Abs.fresh {b : Addr} {o : HO} {p : PV} (a : Abs K H₀ S₀ M S σ H ρ) (n : H b = none) (h : OwnO K S p o) : Abs K H₀ S₀ M S σ (upd H b o) ρ ∧ Fr K H₀ S (upd H b o) σ ρ p (.ref b) := by
  refine ⟨a.step (Step.hid a.sub n), b, o, rfl, a.none0 n, a.sub.free n, upd_same, h, fun j s q ej es z => ?_⟩
  obtain ⟨c, o', z1, _, _, _, z5, _⟩ := a.own j s q ej es
  rw [z] at z1
  cases z1
  rw [n] at z5; cases z5
end
end PL

set_option Elab.async false
set_option linter.all false
set_option maxRecDepth 100000
set_option maxHeartbeats 4000000
namespace PL
open PySem PySem.Spec L2
set_option autoImplicit false

structure Exn where
  cls : Str
  fld : Str
  val : PV
inductive Rs (α : Type) where
  | bad | exc (x : Exn) (ρ : Env) | ok (a : α) (ρ : Env)
def Rs.bind {α β : Type} (r : Rs α) (k : α → Env → Rs β) : Rs β := match r with
  | .bad => .bad
  | .exc x ρ => .exc x ρ
  | .ok a ρ => k a ρ
def opt {α : Type} : Option α → Env → Rs α
  | some a, ρ => .ok a ρ
  | none, _ => .bad
abbrev Den := Env → Rs PV
abbrev DenB := Env → Rs Bool
abbrev DenL := Env → Rs (List PV)
@[simp] theorem bind_ok {α β : Type} (a : α) (ρ : Env) (k : α → Env → Rs β) : (Rs.ok a ρ).bind k = k a ρ := id rfl
@[simp] theorem bind_exc {α β : Type} (x : Exn) (ρ : Env) (k : α → Env → Rs β) : (Rs.exc x ρ).bind k = .exc x ρ := id rfl
@[simp] theorem bind_bad {α β : Type} (k : α → Env → Rs β) : (Rs.bad : Rs α).bind k = .bad := id rfl
@[simp] theorem opt_some {α : Type} (a : α) (ρ : Env) : opt (some a) ρ = .ok a ρ := id rfl
@[simp] theorem opt_none {α : Type} (ρ : Env) : opt (none : Option α) ρ = .bad := id rfl

/-- an exception as it lies -/
def ExcRep (K : PySem.W.Frag) (mg : Str → Option Value) (S H : Hp) (x : Exn) (cls : Value) (d : Option Addr) : Prop :=
  ∃ (C dx : Addr) (v : V), mg x.cls = some (.ref C) ∧ cls = .ref C ∧ d = some dx ∧ H dx = some (.xd [(x.fld, v)]) ∧ Rep K S x.val v

abbrev RelT (α β : Type) := Hp → Hp → Hp → St → Env → α → β → Prop
def Post {α β : Type} (K : PySem.W.Frag) (mg : Str → Option Value) (W : WX) (Rl : RelT α β) (H₀ S₀ : Hp) (M : Addr → Prop) (σ : St) (r : Rs α) (Q : β → Hp → Prop) : Prop :=
  match r with
  | .bad => False
  | .exc x ρ' => ∀ cls dd S' H', Abs K H₀ S₀ M S' σ H' ρ' → ExcRep K mg S' H' x cls dd → W cls dd σ H'
  | .ok a ρ' => ∀ b S' H', Abs K H₀ S₀ M S' σ H' ρ' → Rl H₀ S' H' σ ρ' a b → Q b H'
def XOk {α β : Type} (K : PySem.W.Frag) (mg : Str → Option Value) (W : WX) (Rl : RelT α β) (t : St → Hp → (β → Hp → Prop) → Prop) (d : Env → Rs α) : Prop :=
  ∀ (H₀ S₀ : Hp) (M : Addr → Prop) (S : Hp) (σ : St) (H : Hp) (ρ : Env) (Q : β → Hp → Prop), Abs K H₀ S₀ M S σ H ρ → Post K mg W Rl H₀ S₀ M σ (d ρ) Q → t σ H Q
def rV (K : PySem.W.Frag) : RelT PV V := fun _ S _ _ _ p v => Rep K S p v
def rF (K : PySem.W.Frag) : RelT PV V := fun H₀ S H σ ρ p v => Fr K H₀ S H σ ρ p v
def rB : RelT Bool Bool := fun _ _ _ _ _ a b => b = a
def rL (K : PySem.W.Frag) : RelT (List PV) (List V) := fun _ S _ _ _ ps vs => RepL K S ps vs

section
variable {K : PySem.W.Frag} {mg : Str → Option Value} {W : WX} {H₀ S₀ : Hp} {M : Addr → Prop} {S H : Hp} {σ : St} {ρ : Env}
theorem XOk.bind {α β γ δ : Type} {Rl : RelT α β} {Rl' : RelT γ δ} {t : St → Hp → (β → Hp → Prop) → Prop} {d : Env → Rs α} (h : XOk K mg W Rl t d) (ab : Abs K H₀ S₀ M S σ H ρ) {k : α → Env → Rs γ} {Q : δ → Hp → Prop} {Q1 : β → Hp → Prop}
    (hp : Post K mg W Rl' H₀ S₀ M σ ((d ρ).bind k) Q)
    (hk : ∀ a ρ1 b S1 H1, d ρ = .ok a ρ1 → Abs K H₀ S₀ M S1 σ H1 ρ1 → Same S S1 → Rl H₀ S1 H1 σ ρ1 a b → Post K mg W Rl' H₀ S₀ M σ (k a ρ1) Q → Q1 b H1) : t σ H Q1 := by
  refine h H₀ S M S σ H ρ Q1 ab.rebase ?_
  cases e : d ρ with
  | bad => rw [e] at hp; exact hp
  | exc x ρ1 =>
    rw [e] at hp
    exact fun cls dd S' H' a1 r => hp cls dd S' H' (ab.unbase a1) r
  | ok a ρ1 =>
    rw [e] at hp
    exact fun b S1 H1 a1 r => hk a ρ1 b S1 H1 e (ab.unbase a1) a1.base r hp
/-- fresh is shared -/
theorem XOk.shared {t : TE} {d : Den} (h : XOk K mg W (rF K) t d) : XOk K mg W (rV K) t d := by
  intro H₀ S₀ M S σ H ρ Q ab hp
  refine h H₀ S₀ M S σ H ρ Q ab ?_
  cases e : d ρ with
  | bad => rw [e] at hp; exact hp
  | exc x ρ1 => rw [e] at hp; exact hp
  | ok a ρ1 =>
    rw [e] at hp
    intro b S1 H1 a1 f
    obtain ⟨S2, s2, a2, r2⟩ := a1.shareFr f
    exact hp b S2 H1 a2 r2
end

/-! ### operations by values -/
def V2 (K : PySem.W.Frag) (r : R2) (g : PV → PV → Option PV) : Prop :=
  ∀ (S H : Hp) (x y : V) (p q z : PV) (Q : VK), Same S H → Rep K S p x → Rep K S q y → g p q = some z → (∀ v S' H', Step S H S' H' → Rep K S' z v → Q v H') → r x y H Q
def V2F (K : PySem.W.Frag) (r : R2) (g : PV → PV → Option PV) : Prop :=
  ∀ (S H : Hp) (x y : V) (p q z : PV) (Q : VK), Same S H → Rep K S p x → Rep K S q y → g p q = some z → (∀ a o, H a = none → OwnO K S z o → Q (.ref a) (upd H a o)) → r x y H Q
def V1 (K : PySem.W.Frag) (r : V → Hp → VK → Prop) (g : PV → Option PV) : Prop :=
  ∀ (S H : Hp) (x : V) (p z : PV) (Q : VK), Same S H → Rep K S p x → g p = some z → (∀ v S' H', Step S H S' H' → Rep K S' z v → Q v H') → r x H Q
def VN (K : PySem.W.Frag) (r : List V → Hp → VK → Prop) (g : List PV → Option PV) : Prop :=
  ∀ (S H : Hp) (xs : List V) (ps : List PV) (z : PV) (Q : VK), Same S H → RepL K S ps xs → g ps = some z → (∀ v S' H', Step S H S' H' → Rep K S' z v → Q v H') → r xs H Q
def VNF (K : PySem.W.Frag) (r : List V → Hp → VK → Prop) (g : List PV → Option PV) : Prop :=
  ∀ (S H : Hp) (xs : List V) (ps : List PV) (z : PV) (Q : VK), Same S H → RepL K S ps xs → g ps = some z → (∀ a o, H a = none → OwnO K S z o → Q (.ref a) (upd H a o)) → r xs H Q
/-- the truth of a value -/
def VT (K : PySem.W.Frag) (r : V → Hp → (Bool → Hp → Prop) → Prop) (g : PV → Option Bool) : Prop :=
  ∀ (S H : Hp) (x : V) (p : PV) (z : Bool) (Q : Bool → Hp → Prop), Same S H → Rep K S p x → g p = some z → Q z H → r x H Q
theorem own_new {K : PySem.W.Frag} {S H : Hp} {a : Addr} {o : HO} {z : PV} (s : Same S H) (n : H a = none) (h : OwnO K S z o) : Step S H (upd S a o) (upd H a o) ∧ Rep K (upd S a o) z (.ref a) :=
  ⟨Step.new1 s n, (h.up (same_upd (Same.free s n))).rep upd_same⟩
theorem V2F.v2 {K : PySem.W.Frag} {r : R2} {g : PV → PV → Option PV} (h : V2F K r g) : V2 K r g := fun S H x y p q z Q s rx ry e k => h S H x y p q z Q s rx ry e fun a o n w => k _ _ _ (own_new s n w).1 (own_new s n w).2
theorem VNF.vn {K : PySem.W.Frag} {r : List V → Hp → VK → Prop} {g : List PV → Option PV} (h : VNF K r g) : VN K r g := fun S H xs ps z Q s rx e k => h S H xs ps z Q s rx e fun a o n w => k _ _ _ (own_new s n w).1 (own_new s n w).2
def PV.sc : PV → Bool
  | .non => true
  | .bl _ => true
  | .int _ => true
  | .str _ => true
  | _ => false
theorem Rep.sc {K : PySem.W.Frag} {S S' : Hp} {p : PV} {v : V} (h : Rep K S p v) (e : p.sc = true) : Rep K S' p v := by
  cases p with
  | non => cases h; exact .non
  | bl b => cases h; exact .bl b
  | int i => cases h; exact .int i
  | str x => cases h; exact .str x
  | _ => cases e

/-! ### denotations of expressions -/
def dC (p : PV) : Den := fun ρ => .ok p ρ
def dVar (i : Nat) : Den := fun ρ => match ρ[i]? with
  | some (.sh p) => .ok p ρ
  | some (.ow p) => .ok p (ρ.set i (.sh p))
  | _ => .bad
def Sl.pv? : Sl → Option PV
  | .sh p => some p
  | .ow p => some p
  | .io p => some p
  | .un => none
/-- what the slot holds -/
def slot (ρ : Env) (i : Nat) : Option PV := (ρ[i]?).bind Sl.pv?
def d1 (g : PV → Option PV) (da : Den) : Den := fun ρ => (da ρ).bind fun p ρ1 => opt (g p) ρ1
def d2 (g : PV → PV → Option PV) (da db : Den) : Den := fun ρ => (da ρ).bind fun p ρ1 => (db ρ1).bind fun q ρ2 => opt (g p q) ρ2
/-- the left one a slot that is only looked at -/
def d2l (g : PV → PV → Option PV) (i : Nat) (db : Den) : Den := fun ρ => match slot ρ i with
  | none => .bad
  | some _ => (db ρ).bind fun q ρ1 => match slot ρ1 i with
    | none => .bad
    | some p => opt (g p q) ρ1
def d2r (g : PV → PV → Option PV) (da : Den) (i : Nat) : Den := fun ρ => (da ρ).bind fun p ρ1 => match slot ρ1 i with
    | none => .bad
    | some q => opt (g p q) ρ1
def d2b (g : PV → PV → Option PV) (i j : Nat) : Den := fun ρ => match slot ρ i, slot ρ j with
    | some p, some q => opt (g p q) ρ
    | _, _ => .bad
def d1v (g : PV → Option PV) (i : Nat) : Den := fun ρ => match slot ρ i with
    | some p => opt (g p) ρ
    | _ => .bad
def dNil : DenL := fun ρ => .ok [] ρ
def dCons (da : Den) (dr : DenL) : DenL := fun ρ => (da ρ).bind fun p ρ1 => (dr ρ1).bind fun ps ρ2 => .ok (p :: ps) ρ2
def dN (g : List PV → Option PV) (da : DenL) : Den := fun ρ => (da ρ).bind fun ps ρ1 => opt (g ps) ρ1
def dIf (dc : DenB) (da db : Den) : Den := fun ρ => (dc ρ).bind fun b ρ1 => if b = true then da ρ1 else db ρ1
/-- tests -/
def bAnd (da db : DenB) : DenB := fun ρ => (da ρ).bind fun b ρ1 => if b = true then db ρ1 else .ok false ρ1
def bOr (da db : DenB) : DenB := fun ρ => (da ρ).bind fun b ρ1 => if b = true then .ok true ρ1 else db ρ1
def bNot (da : DenB) : DenB := fun ρ => (da ρ).bind fun b ρ1 => .ok (!b) ρ1
def PV.bool? : PV → Option Bool
  | .bl b => some b
  | _ => none
/-- a value that is a bool, as a test -/
def bVal (da : Den) : DenB := fun ρ => (da ρ).bind fun p ρ1 => opt p.bool? ρ1
def truth : PV → Option Bool
  | .non => some false
  | .bl b => some b
  | .int i => some (i != 0)
  | .str x => if x.length ≤ sizeLine then some ((x.length : Int) != 0) else none
  | .lst ps => some (!ps.isEmpty)
  | .tup ps => some (!ps.isEmpty)
  | .ktup ps => some (!ps.isEmpty)
  | .klst ps => some (!ps.isEmpty)
  | .dic _ _ _ => none
  | .fn _ => none
  | .obj _ _ _ => none
def bTru (da : Den) : DenB := fun ρ => (da ρ).bind fun p ρ1 => opt (truth p) ρ1
def bTruV (i : Nat) : DenB := fun ρ => match slot ρ i with
  | some p => opt (truth p) ρ
  | none => .bad

section
variable {K : PySem.W.Frag} {mg : Str → Option Value} {W : WX}
abbrev EOk (K : PySem.W.Frag) (mg : Str → Option Value) (W : WX) (t : TE) (d : Den) : Prop := XOk K mg W (rV K) t d
abbrev FOk (K : PySem.W.Frag) (mg : Str → Option Value) (W : WX) (t : TE) (d : Den) : Prop := XOk K mg W (rF K) t d
abbrev TOk (K : PySem.W.Frag) (mg : Str → Option Value) (W : WX) (t : TT) (d : DenB) : Prop := XOk K mg W rB t d
abbrev AOk (K : PySem.W.Frag) (mg : Str → Option Value) (W : WX) (t : TA) (d : DenL) : Prop := XOk K mg W (rL K) t d

theorem eo_c {p : PV} {v : V} (h : ∀ S, Rep K S p v) : EOk K mg W (tC v) (dC p) := fun H₀ S₀ M S σ H ρ Q ab hp => hp v S H ab (h S)
theorem eo_var {i : Nat} : EOk K mg W (tVar i) (dVar i) := by
  intro H₀ S₀ M S σ H ρ Q ab hp
  unfold dVar at hp
  cases e : ρ[i]? with
  | none => rw [e] at hp; exact hp.elim
  | some s =>
    rw [e] at hp
    cases s with
    | un => exact hp.elim
    | io p => exact hp.elim
    | sh p =>
      obtain ⟨v, h1, h2⟩ := ab.sh i p e
      exact ⟨v, h1, hp v S H ab h2⟩
    | ow p =>
      obtain ⟨b, S', h1, h2, h3, h4⟩ := ab.share e
      exact ⟨.ref b, h1, hp _ S' H h3 h4⟩
theorem Abs.look {H₀ S₀ : Hp} {M : Addr → Prop} {S H : Hp} {σ : St} {ρ : Env} {i : Nat} {p : PV} (a : Abs K H₀ S₀ M S σ H ρ) (e : slot ρ i = some p) :
    ∃ v S', σ[i]? = some (some v) ∧ Same S S' ∧ Same S' H ∧ Rep K S' p v := by
  unfold slot at e
  cases e1 : ρ[i]? with
  | none => rw [e1] at e; cases e
  | some s =>
    rw [e1] at e
    cases s with
    | un => cases e
    | sh q =>
      cases e
      obtain ⟨v, h1, h2⟩ := a.sh i _ e1
      exact ⟨v, S, h1, Same.refl _, a.sub, h2⟩
    | ow q =>
      cases e
      obtain ⟨b, o, h1, h2, h3, h4, h5, h6⟩ := a.own i _ _ e1 rfl
      refine ⟨.ref b, upd S b o, h1, same_upd h4, fun c o' z => ?_, (h6.up (same_upd h4)).rep upd_same⟩
      by_cases hc : c = b
      · subst hc; rw [upd_same] at z; cases z; exact h5
      · rw [upd_ne hc] at z; exact a.sub _ _ z
    | io q =>
      cases e
      obtain ⟨b, o, h1, h2, h3, h4, h5, h6⟩ := a.own i _ _ e1 rfl
      refine ⟨.ref b, upd S b o, h1, same_upd h4, fun c o' z => ?_, (h6.up (same_upd h4)).rep upd_same⟩
      by_cases hc : c = b
      · subst hc; rw [upd_same] at z; cases z; exact h5
      · rw [upd_ne hc] at z; exact a.sub _ _ z
/-- the two slots looked at together -/
theorem Abs.look2 {H₀ S₀ : Hp} {M : Addr → Prop} {S H : Hp} {σ : St} {ρ : Env} {i j : Nat} {p q : PV} (a : Abs K H₀ S₀ M S σ H ρ) (e : slot ρ i = some p) (e' : slot ρ j = some q) :
    ∃ v u S', σ[i]? = some (some v) ∧ σ[j]? = some (some u) ∧ Same S S' ∧ Same S' H ∧ Rep K S' p v ∧ Rep K S' q u := by
  obtain ⟨v, S1, h1, h2, h3, h4⟩ := a.look e
  obtain ⟨u, S2, k1, k2, k3, k4⟩ := a.look e'
  refine ⟨v, u, fun b => match S1 b with | some o => some o | none => S2 b, h1, k1, fun b o z => ?_, fun b o z => ?_, h4.up fun b o z => ?_, k4.up fun b o z => ?_⟩
  · simp only [h2 b o z]
  · cases e1 : S1 b with
    | some o' => simp only [e1] at z; rw [← z]; exact h3 b o' e1
    | none => simp only [e1] at z; exact k3 b o z
  · simp only [z]
  · cases e1 : S1 b with
    | some o' =>
      have z1 := h3 b o' e1
      rw [k3 b o z] at z1
      simp only [e1]; exact z1.symm
    | none => simp only [e1]; exact z
theorem step_of {S S' H S2 H2 : Hp} (s : Same S H) (t : Step S' H S2 H2) : Step S H S H2 := ⟨Same.refl _, t.h, s.trans t.h, fun _ _ e => .inl e⟩
theorem eo_1 {ta : TE} {da : Den} {r : V → Hp → VK → Prop} {g : PV → Option PV} (ha : EOk K mg W ta da) (hr : V1 K r g) : EOk K mg W (tUn r ta) (d1 g da) := by
  intro H₀ S₀ M S σ H ρ Q ab hp
  refine ha.bind (Rl' := rV K) ab hp fun p ρ1 v S1 H1 _ a1 _ r1 hp => ?_
  cases e : g p with
  | none => rw [e] at hp; exact hp.elim
  | some z =>
    rw [e] at hp
    exact hr S1 H1 v p z Q a1.sub r1 e fun v' S2 H2 st rz => hp v' S2 H2 (a1.step st) rz
theorem eo_2 {ta tb : TE} {da db : Den} {r : R2} {g : PV → PV → Option PV} (ha : EOk K mg W ta da) (hb : EOk K mg W tb db) (hr : V2 K r g) : EOk K mg W (tOp r ta tb) (d2 g da db) := by
  intro H₀ S₀ M S σ H ρ Q ab hp
  refine ha.bind (Rl' := rV K) ab hp fun p ρ1 v S1 H1 _ a1 _ r1 hp => ?_
  refine hb.bind (Rl' := rV K) a1 hp fun q ρ2 u S2 H2 _ a2 s2 r2 hp => ?_
  cases e : g p q with
  | none => rw [e] at hp; exact hp.elim
  | some z =>
    rw [e] at hp
    exact hr S2 H2 v u p q z Q a2.sub (r1.up s2) r2 e fun v' S3 H3 st rz => hp v' S3 H3 (a2.step st) rz
theorem fo_2 {ta tb : TE} {da db : Den} {r : R2} {g : PV → PV → Option PV} (ha : EOk K mg W ta da) (hb : EOk K mg W tb db) (hr : V2F K r g) : FOk K mg W (tOp r ta tb) (d2 g da db) := by
  intro H₀ S₀ M S σ H ρ Q ab hp
  refine ha.bind (Rl' := rF K) ab hp fun p ρ1 v S1 H1 _ a1 _ r1 hp => ?_
  refine hb.bind (Rl' := rF K) a1 hp fun q ρ2 u S2 H2 _ a2 s2 r2 hp => ?_
  cases e : g p q with
  | none => rw [e] at hp; exact hp.elim
  | some z =>
    rw [e] at hp
    exact hr S2 H2 v u p q z Q a2.sub (r1.up s2) r2 e fun a o n w => hp _ S2 _ (a2.fresh n w).1 (a2.fresh n w).2
theorem eo_2l {i : Nat} {tb : TE} {db : Den} {r : R2} {g : PV → PV → Option PV} (hb : EOk K mg W tb db) (hr : V2 K r g) (hs : ∀ p q z, g p q = some z → z.sc = true) : EOk K mg W (tOp r (tVar i) tb) (d2l g i db) := by
  intro H₀ S₀ M S σ H ρ Q ab hp
  unfold d2l at hp
  cases e0 : slot ρ i with
  | none => rw [e0] at hp; exact hp.elim
  | some p0 =>
    rw [e0] at hp
    obtain ⟨v, _, hv, _⟩ := ab.look e0
    refine ⟨v, hv, ?_⟩
    refine hb.bind (Rl' := rV K) ab hp fun q ρ1 u S1 H1 _ a1 _ r1 hp => ?_
    cases e1 : slot ρ1 i with
    | none => rw [e1] at hp; exact hp.elim
    | some p =>
      rw [e1] at hp
      obtain ⟨v', S2, hv', s2, s3, r2⟩ := a1.look e1
      rw [hv] at hv'
      cases hv'
      cases e : g p q with
      | none => simp only [e] at hp; exact hp.elim
      | some z =>
        simp only [e] at hp
        exact hr S2 H1 v u p q z Q s3 r2 (r1.up s2) e fun v' S3 H3 st rz => hp v' S1 H3 (a1.step (step_of a1.sub st)) (rz.sc (hs _ _ _ e))
theorem eo_2r {i : Nat} {ta : TE} {da : Den} {r : R2} {g : PV → PV → Option PV} (ha : EOk K mg W ta da) (hr : V2 K r g) (hs : ∀ p q z, g p q = some z → z.sc = true) : EOk K mg W (tOp r ta (tVar i)) (d2r g da i) := by
  intro H₀ S₀ M S σ H ρ Q ab hp
  refine ha.bind (Rl' := rV K) ab hp fun p ρ1 v S1 H1 _ a1 _ r1 hp => ?_
  cases e1 : slot ρ1 i with
  | none => rw [e1] at hp; exact hp.elim
  | some q =>
    rw [e1] at hp
    obtain ⟨u, S2, hv', s2, s3, r2⟩ := a1.look e1
    refine ⟨u, hv', ?_⟩
    cases e : g p q with
    | none => simp only [e] at hp; exact hp.elim
    | some z =>
      simp only [e] at hp
      exact hr S2 H1 v u p q z Q s3 (r1.up s2) r2 e fun v' S3 H3 st rz => hp v' S1 H3 (a1.step (step_of a1.sub st)) (rz.sc (hs _ _ _ e))
theorem eo_2b {i j : Nat} {r : R2} {g : PV → PV → Option PV} (hr : V2 K r g) (hs : ∀ p q z, g p q = some z → z.sc = true) : EOk K mg W (tOp r (tVar i) (tVar j)) (d2b g i j) := by
  intro H₀ S₀ M S σ H ρ Q ab hp
  unfold d2b at hp
  cases e0 : slot ρ i with
  | none => rw [e0] at hp; exact hp.elim
  | some p =>
    cases e1 : slot ρ j with
    | none => rw [e0, e1] at hp; exact hp.elim
    | some q =>
      rw [e0, e1] at hp
      obtain ⟨v, u, S2, hv, hu, s2, s3, r1, r2⟩ := ab.look2 e0 e1
      refine ⟨v, hv, u, hu, ?_⟩
      cases e : g p q with
      | none => simp only [e] at hp; exact hp.elim
      | some z =>
        simp only [e] at hp
        exact hr S2 H v u p q z Q s3 r1 r2 e fun v' S3 H3 st rz => hp v' S H3 (ab.step (step_of ab.sub st)) (rz.sc (hs _ _ _ e))
theorem eo_1v {i : Nat} {r : V → Hp → VK → Prop} {g : PV → Option PV} (hr : V1 K r g) (hs : ∀ p z, g p = some z → z.sc = true) : EOk K mg W (tUn r (tVar i)) (d1v g i) := by
  intro H₀ S₀ M S σ H ρ Q ab hp
  unfold d1v at hp
  cases e0 : slot ρ i with
  | none => rw [e0] at hp; exact hp.elim
  | some p =>
    rw [e0] at hp
    obtain ⟨v, S2, hv, s2, s3, r2⟩ := ab.look e0
    refine ⟨v, hv, ?_⟩
    cases e : g p with
    | none => simp only [e] at hp; exact hp.elim
    | some z =>
      simp only [e] at hp
      exact hr S2 H v p z Q s3 r2 e fun v' S3 H3 st rz => hp v' S H3 (ab.step (step_of ab.sub st)) (rz.sc (hs _ _ e))
theorem ao_nil : AOk K mg W tNil dNil := fun H₀ S₀ M S σ H ρ Q ab hp => hp [] S H ab .nil
theorem ao_cons {ta : TE} {da : Den} {tr : TA} {dr : DenL} (ha : EOk K mg W ta da) (hr : AOk K mg W tr dr) : AOk K mg W (tCons ta tr) (dCons da dr) := by
  intro H₀ S₀ M S σ H ρ Q ab hp
  refine ha.bind (Rl' := rL K) ab hp fun p ρ1 v S1 H1 _ a1 _ r1 hp => ?_
  refine hr.bind (Rl' := rL K) a1 hp fun ps ρ2 vs S2 H2 _ a2 s2 r2 hp => ?_
  exact hp _ S2 H2 a2 (.cons (r1.up s2) r2)
theorem eo_n {ta : TA} {da : DenL} {r : List V → Hp → VK → Prop} {g : List PV → Option PV} (ha : AOk K mg W ta da) (hr : VN K r g) : EOk K mg W (tCB r ta) (dN g da) := by
  intro H₀ S₀ M S σ H ρ Q ab hp
  refine ha.bind (Rl' := rV K) ab hp fun p ρ1 v S1 H1 _ a1 _ r1 hp => ?_
  cases e : g p with
  | none => rw [e] at hp; exact hp.elim
  | some z =>
    rw [e] at hp
    exact hr S1 H1 v p z Q a1.sub r1 e fun v' S2 H2 st rz => hp v' S2 H2 (a1.step st) rz
theorem fo_n {ta : TA} {da : DenL} {r : List V → Hp → VK → Prop} {g : List PV → Option PV} (ha : AOk K mg W ta da) (hr : VNF K r g) : FOk K mg W (tCB r ta) (dN g da) := by
  intro H₀ S₀ M S σ H ρ Q ab hp
  refine ha.bind (Rl' := rF K) ab hp fun p ρ1 v S1 H1 _ a1 _ r1 hp => ?_
  cases e : g p with
  | none => rw [e] at hp; exact hp.elim
  | some z =>
    rw [e] at hp
    exact hr S1 H1 v p z Q a1.sub r1 e fun a o n w => hp _ S1 _ (a1.fresh n w).1 (a1.fresh n w).2
/-- one argument, a slot that is only looked at -/
theorem eo_nv {i : Nat} {r : List V → Hp → VK → Prop} {g : List PV → Option PV} (hr : VN K r g) (hs : ∀ p z, g [p] = some z → z.sc = true) : EOk K mg W (tCB r (tCons (tVar i) tNil)) (d1v (fun p => g [p]) i) := by
  intro H₀ S₀ M S σ H ρ Q ab hp
  unfold d1v at hp
  cases e0 : slot ρ i with
  | none => rw [e0] at hp; exact hp.elim
  | some p =>
    rw [e0] at hp
    obtain ⟨v, S2, hv, s2, s3, r2⟩ := ab.look e0
    refine ⟨v, hv, ?_⟩
    cases e : g [p] with
    | none => simp only [e] at hp; exact hp.elim
    | some z =>
      simp only [e] at hp
      exact hr S2 H [v] [p] z Q s3 (.cons r2 .nil) e fun v' S3 H3 st rz => hp v' S H3 (ab.step (step_of ab.sub st)) (rz.sc (hs _ _ e))
theorem eo_if {tc : TT} {dc : DenB} {ta tb : TE} {da db : Den} (hc : TOk K mg W tc dc) (ha : EOk K mg W ta da) (hb : EOk K mg W tb db) : EOk K mg W (tIf tc ta tb) (dIf dc da db) := by
  intro H₀ S₀ M S σ H ρ Q ab hp
  refine hc.bind (Rl' := rV K) ab hp fun c ρ1 b S1 H1 _ a1 _ r1 hp => ?_
  cases r1
  cases c with
  | true => exact ha H₀ S₀ M S1 σ H1 ρ1 Q a1 hp
  | false => exact hb H₀ S₀ M S1 σ H1 ρ1 Q a1 hp
theorem to_and {ta tb : TT} {da db : DenB} (ha : TOk K mg W ta da) (hb : TOk K mg W tb db) : TOk K mg W (tAnd ta tb) (bAnd da db) := by
  intro H₀ S₀ M S σ H ρ Q ab hp
  refine ha.bind (Rl' := rB) ab hp fun c ρ1 b S1 H1 _ a1 _ r1 hp => ?_
  cases r1
  cases c with
  | true => exact hb H₀ S₀ M S1 σ H1 ρ1 Q a1 hp
  | false => exact hp false S1 H1 a1 rfl
theorem to_or {ta tb : TT} {da db : DenB} (ha : TOk K mg W ta da) (hb : TOk K mg W tb db) : TOk K mg W (tOr ta tb) (bOr da db) := by
  intro H₀ S₀ M S σ H ρ Q ab hp
  refine ha.bind (Rl' := rB) ab hp fun c ρ1 b S1 H1 _ a1 _ r1 hp => ?_
  cases r1
  cases c with
  | true => exact hp true S1 H1 a1 rfl
  | false => exact hb H₀ S₀ M S1 σ H1 ρ1 Q a1 hp
theorem to_not {ta : TT} {da : DenB} (ha : TOk K mg W ta da) : TOk K mg W (tNot ta) (bNot da) := by
  intro H₀ S₀ M S σ H ρ Q ab hp
  refine ha.bind (Rl' := rB) ab hp fun c ρ1 b S1 H1 _ a1 _ r1 hp => ?_
  cases r1
  exact hp _ S1 H1 a1 rfl
theorem to_val {ta : TE} {da : Den} (ha : EOk K mg W ta da) : TOk K mg W (tTest ta) (bVal da) := by
  intro H₀ S₀ M S σ H ρ Q ab hp
  refine ha.bind (Rl' := rB) ab hp fun p ρ1 v S1 H1 _ a1 _ r1 hp => ?_
  cases p with
  | bl b =>
    cases r1
    exact ⟨b, rfl, hp b S1 H1 a1 rfl⟩
  | _ => exact hp.elim
theorem to_tru {ta : TE} {da : Den} {r : V → Hp → (Bool → Hp → Prop) → Prop} (ha : EOk K mg W ta da) (hr : VT K r truth) : TOk K mg W (fun σ H Q => ta σ H fun x H' => r x H' Q) (bTru da) := by
  intro H₀ S₀ M S σ H ρ Q ab hp
  refine ha.bind (Rl' := rB) ab hp fun p ρ1 v S1 H1 _ a1 _ r1 hp => ?_
  cases e : truth p with
  | none => rw [e] at hp; exact hp.elim
  | some z =>
    rw [e] at hp
    exact hr S1 H1 v p z Q a1.sub r1 e (hp z S1 H1 a1 rfl)
theorem to_truv {i : Nat} {r : V → Hp → (Bool → Hp → Prop) → Prop} (hr : VT K r truth) : TOk K mg W (fun σ H Q => tVar i σ H fun x H' => r x H' Q) (bTruV i) := by
  intro H₀ S₀ M S σ H ρ Q ab hp
  unfold bTruV at hp
  cases e0 : slot ρ i with
  | none => rw [e0] at hp; exact hp.elim
  | some p =>
    rw [e0] at hp
    obtain ⟨v, S2, hv, s2, s3, r2⟩ := ab.look e0
    refine ⟨v, hv, ?_⟩
    cases e : truth p with
    | none => simp only [e] at hp; exact hp.elim
    | some z =>
      simp only [e] at hp
      exact hr S2 H v p z Q s3 r2 e (hp z S H ab rfl)
end
end PL

set_option Elab.async false
set_option linter.all false
set_option maxRecDepth 100000
set_option maxHeartbeats 4000000
namespace PL
open PySem PySem.Spec L2
set_option autoImplicit false

inductive RS where
  | bad | exc (x : Exn) (ρ : Env) | nx (ρ : Env) | rt (p : PV) (ρ : Env) | bk (ρ : Env) | ct (ρ : Env)
def Rs.bindS {α : Type} (r : Rs α) (k : α → Env → RS) : RS := match r with
  | .bad => .bad
  | .exc x ρ => .exc x ρ
  | .ok a ρ => k a ρ
@[simp] theorem bindS_ok {α : Type} (a : α) (ρ : Env) (k : α → Env → RS) : (Rs.ok a ρ).bindS k = k a ρ := id rfl
@[simp] theorem bindS_exc {α : Type} (x : Exn) (ρ : Env) (k : α → Env → RS) : (Rs.exc x ρ).bindS k = .exc x ρ := id rfl
@[simp] theorem bindS_bad {α : Type} (k : α → Env → RS) : (Rs.bad : Rs α).bindS k = .bad := id rfl
abbrev DenS := Env → RS
/-- how a value comes back: fresh or shared -/
def RetRep (fr : Bool) (K : PySem.W.Frag) (H₀ S H : Hp) (σ : St) (ρ : Env) (p : PV) (v : V) : Prop := if fr = true then Fr K H₀ S H σ ρ p v else Rep K S p v
def SPost (K : PySem.W.Frag) (mg : Str → Option Value) (W : WX) (fr : Bool) (H₀ S₀ : Hp) (M : Addr → Prop) (r : RS) (D : Ends) : Prop :=
  match r with
  | .bad => False
  | .exc x ρ' => ∀ cls dd S' σ' H', Abs K H₀ S₀ M S' σ' H' ρ' → ExcRep K mg S' H' x cls dd → W cls dd σ' H'
  | .nx ρ' => ∀ S' σ' H', Abs K H₀ S₀ M S' σ' H' ρ' → D.nx σ' H'
  | .bk ρ' => ∀ S' σ' H', Abs K H₀ S₀ M S' σ' H' ρ' → D.bk σ' H'
  | .ct ρ' => ∀ S' σ' H', Abs K H₀ S₀ M S' σ' H' ρ' → D.ct σ' H'
  | .rt p ρ' => ∀ v S' σ' H', Abs K H₀ S₀ M S' σ' H' ρ' → RetRep fr K H₀ S' H' σ' ρ' p v → D.rt v H'
def SOk (K : PySem.W.Frag) (mg : Str → Option Value) (W : WX) (fr : Bool) (t : TS) (d : DenS) : Prop :=
  ∀ (H₀ S₀ : Hp) (M : Addr → Prop) (S : Hp) (σ : St) (H : Hp) (ρ : Env) (D : Ends), Abs K H₀ S₀ M S σ H ρ → SPost K mg W fr H₀ S₀ M (d ρ) D → t D σ H

section
variable {K : PySem.W.Frag} {mg : Str → Option Value} {W : WX} {fr : Bool} {H₀ S₀ : Hp} {M : Addr → Prop} {S H : Hp} {σ : St} {ρ : Env}
/-- the same ends, over a later base -/
theorem SPost.rebase {S1 σ1 H1 ρ1} (ab : Abs K H₀ S₀ M S1 σ1 H1 ρ1) {r : RS} {D : Ends} (h : SPost K mg W fr H₀ S₀ M r D) : SPost K mg W fr H₀ S1 M r D := by
  cases r with
  | bad => exact h
  | exc x ρ' => exact fun cls dd S' σ' H' a r => h cls dd S' σ' H' (ab.unbase a) r
  | nx ρ' => exact fun S' σ' H' a => h S' σ' H' (ab.unbase a)
  | bk ρ' => exact fun S' σ' H' a => h S' σ' H' (ab.unbase a)
  | ct ρ' => exact fun S' σ' H' a => h S' σ' H' (ab.unbase a)
  | rt p ρ' => exact fun v S' σ' H' a r => h v S' σ' H' (ab.unbase a) r
theorem XOk.bindS {α β : Type} {Rl : RelT α β} {t : St → Hp → (β → Hp → Prop) → Prop} {d : Env → Rs α} (h : XOk K mg W Rl t d) (ab : Abs K H₀ S₀ M S σ H ρ) {k : α → Env → RS} {D : Ends} {Q1 : β → Hp → Prop}
    (hp : SPost K mg W fr H₀ S₀ M ((d ρ).bindS k) D)
    (hk : ∀ a ρ1 b S1 H1, d ρ = .ok a ρ1 → Abs K H₀ S₀ M S1 σ H1 ρ1 → Same S S1 → Rl H₀ S1 H1 σ ρ1 a b → SPost K mg W fr H₀ S₀ M (k a ρ1) D → Q1 b H1) : t σ H Q1 := by
  refine h H₀ S M S σ H ρ Q1 ab.rebase ?_
  cases e : d ρ with
  | bad => rw [e] at hp; exact hp
  | exc x ρ1 =>
    rw [e] at hp
    exact fun cls dd S' H' a1 r => hp cls dd S' σ H' (ab.unbase a1) r
  | ok a ρ1 =>
    rw [e] at hp
    exact fun b S1 H1 a1 r => hk a ρ1 b S1 H1 e (ab.unbase a1) a1.base r hp

/-! ### small statements -/
def sNx : DenS := fun ρ => .nx ρ
def sBk : DenS := fun ρ => .bk ρ
def sCt : DenS := fun ρ => .ct ρ
def sSeq (a b : DenS) : DenS := fun ρ => match a ρ with
  | .nx ρ1 => b ρ1
  | r => r
def sExpr (da : Den) : DenS := fun ρ => (da ρ).bindS fun _ ρ1 => .nx ρ1
def sRet (da : Den) : DenS := fun ρ => (da ρ).bindS fun p ρ1 => .rt p ρ1
def sRetN : DenS := fun ρ => .rt .non ρ
def sRetO (i : Nat) : DenS := fun ρ => match ρ[i]? with
  | some (.ow p) => .rt p (ρ.set i .un)
  | _ => .bad
def sIf (dc : DenB) (a b : DenS) : DenS := fun ρ => (dc ρ).bindS fun c ρ1 => if c = true then a ρ1 else b ρ1
def sSet (i : Nat) (da : Den) : DenS := fun ρ => (da ρ).bindS fun p ρ1 => .nx (ρ1.set i (.sh p))
def sSetF (i : Nat) (da : Den) : DenS := fun ρ => (da ρ).bindS fun p ρ1 => .nx (ρ1.set i (.ow p))
abbrev DenG := PV → Env → Option Env
def sAsg (da : Den) (dg : DenG) : DenS := fun ρ => (da ρ).bindS fun p ρ1 => match dg p ρ1 with
  | some ρ2 => .nx ρ2
  | none => .bad
def sAug (i : Nat) (g : PV → PV → Option PV) (da : Den) : DenS := fun ρ => match slot ρ i with
  | none => .bad
  | some _ => (da ρ).bindS fun q ρ1 => match slot ρ1 i with
    | none => .bad
    | some p => match g p q with
      | some z => .nx (ρ1.set i (.sh z))
      | none => .bad
def gName (i : Nat) : DenG := fun p ρ => some (ρ.set i (.sh p))
def GOk (K : PySem.W.Frag) (g : TG) (dg : DenG) : Prop :=
  ∀ (H₀ S₀ : Hp) (M : Addr → Prop) (S : Hp) (σ : St) (H : Hp) (ρ ρ' : Env) (p : PV) (v : V) (Q : St → Hp → Prop), Abs K H₀ S₀ M S σ H ρ → Rep K S p v → dg p ρ = some ρ' → (∀ σ', Abs K H₀ S₀ M S σ' H ρ' → Q σ' H) → g v σ H Q
def GsOk (K : PySem.W.Frag) (g : TGs) (dg : List PV → Env → Option Env) : Prop :=
  ∀ (H₀ S₀ : Hp) (M : Addr → Prop) (S : Hp) (σ : St) (H : Hp) (ρ ρ' : Env) (ps : List PV) (vs : List V) (Q : St → Hp → Prop), Abs K H₀ S₀ M S σ H ρ → RepL K S ps vs → dg ps ρ = some ρ' → (∀ σ', Abs K H₀ S₀ M S σ' H ρ' → Q σ' H) → g vs σ H Q
def gsNil : List PV → Env → Option Env
  | [], ρ => some ρ
  | _ :: _, _ => none
def gsCons (a : DenG) (b : List PV → Env → Option Env) : List PV → Env → Option Env
  | [], _ => none
  | p :: ps, ρ => (a p ρ).bind (b ps)
def gTup (b : List PV → Env → Option Env) : DenG := fun p ρ => match p with
  | .tup ps => b ps ρ
  | _ => none
theorem go_name {i : Nat} : GOk K (L2.gName i) (gName i) := fun H₀ S₀ M S σ H ρ ρ' p v Q ab r e h => by
  cases e
  exact h _ (ab.setSh r)
theorem gso_nil : GsOk K L2.gNil gsNil := fun H₀ S₀ M S σ H ρ ρ' ps vs Q ab r e h => by
  cases r with
  | nil =>
    cases e
    exact ⟨rfl, h _ ab⟩
  | cons _ _ => cases e
theorem gso_cons {g : TG} {dg : DenG} {gs : TGs} {dgs : List PV → Env → Option Env} (h1 : GOk K g dg) (h2 : GsOk K gs dgs) : GsOk K (L2.gCons g gs) (gsCons dg dgs) := fun H₀ S₀ M S σ H ρ ρ' ps vs Q ab r e h => by
  cases r with
  | nil => cases e
  | cons r1 r2 =>
    rename_i p v ps vs
    unfold gsCons at e
    cases e1 : dg p ρ with
    | none => simp only [e1] at e; cases e
    | some ρ1 =>
      simp only [e1] at e
      exact ⟨_, _, rfl, h1 H₀ S₀ M S σ H ρ ρ1 p v _ ab r1 e1 fun σ1 a1 => h2 H₀ S₀ M S σ1 H ρ1 ρ' ps vs Q a1 r2 e h⟩
theorem gsCons_len {n : Nat} {dg : DenG} {dgs : List PV → Env → Option Env} (h : ∀ ps ρ ρ', dgs ps ρ = some ρ' → ps.length = n) : ∀ ps ρ ρ', gsCons dg dgs ps ρ = some ρ' → ps.length = n + 1
  | [], _, _, e => by cases e
  | p :: ps, ρ, ρ', e => by
    unfold gsCons at e
    cases e1 : dg p ρ with
    | none => simp only [e1] at e; cases e
    | some ρ1 =>
      simp only [e1] at e
      rw [List.length_cons, h ps ρ1 ρ' e]
theorem gsNil_len : ∀ ps ρ ρ', gsNil ps ρ = some ρ' → ps.length = 0
  | [], _, _, _ => rfl
  | _ :: _, _, _, e => by cases e
theorem go_tup {n : Nat} {gs : TGs} {dgs : List PV → Env → Option Env} (h1 : GsOk K gs dgs) (hn : ∀ ps ρ ρ', dgs ps ρ = some ρ' → ps.length = n) : GOk K (L2.gTup K n gs) (gTup dgs) := fun H₀ S₀ M S σ H ρ ρ' p v Q ab r e h => by
  cases p with
  | tup ps =>
    cases r with
    | tup hs hr =>
      refine ⟨_, _, rfl, .inl (.inl (ab.sub _ _ hs)), ?_, h1 H₀ S₀ M S σ H ρ ρ' ps _ Q ab hr e h⟩
      rw [← hr.length]
      exact hn ps ρ ρ' e
  | _ => cases e

theorem so_nx : SOk K mg W fr tNext sNx := fun H₀ S₀ M S σ H ρ D ab hp => hp S σ H ab
theorem so_bk : SOk K mg W fr tBreak sBk := fun H₀ S₀ M S σ H ρ D ab hp => hp S σ H ab
theorem so_ct : SOk K mg W fr tCont sCt := fun H₀ S₀ M S σ H ρ D ab hp => hp S σ H ab
theorem so_seq {t u : TS} {a b : DenS} (ha : SOk K mg W fr t a) (hb : SOk K mg W fr u b) : SOk K mg W fr (tSeq t u) (sSeq a b) := fun H₀ S₀ M S σ H ρ D ab hp => by
  refine ha H₀ S₀ M S σ H ρ _ ab ?_
  unfold sSeq at hp
  cases e : a ρ with
  | nx ρ1 =>
    rw [e] at hp
    exact fun S' σ' H' a1 => hb H₀ S₀ M S' σ' H' ρ1 D a1 hp
  | bad => rw [e] at hp; exact hp
  | exc x ρ1 => rw [e] at hp; exact hp
  | rt p ρ1 => rw [e] at hp; exact hp
  | bk ρ1 => rw [e] at hp; exact hp
  | ct ρ1 => rw [e] at hp; exact hp
theorem so_expr {te : TE} {da : Den} (ha : EOk K mg W te da) : SOk K mg W fr (tDrop te) (sExpr da) := fun H₀ S₀ M S σ H ρ D ab hp =>
  ha.bindS ab hp fun p ρ1 v S1 H1 _ a1 _ r hp => hp S1 σ H1 a1
theorem so_ret {te : TE} {da : Den} (ha : EOk K mg W te da) : SOk K mg W false (tRet te) (sRet da) := fun H₀ S₀ M S σ H ρ D ab hp =>
  ha.bindS ab hp fun p ρ1 v S1 H1 _ a1 _ r hp => hp v S1 σ H1 a1 r
theorem so_retF {te : TE} {da : Den} (ha : FOk K mg W te da) : SOk K mg W true (tRet te) (sRet da) := fun H₀ S₀ M S σ H ρ D ab hp =>
  ha.bindS ab hp fun p ρ1 v S1 H1 _ a1 _ r hp => hp v S1 σ H1 a1 r
theorem so_retN : SOk K mg W false tRetN sRetN := fun H₀ S₀ M S σ H ρ D ab hp => hp .non S σ H ab .non
theorem so_retO {i : Nat} : SOk K mg W true (tRet (tVar i)) (sRetO i) := fun H₀ S₀ M S σ H ρ D ab hp => by
  unfold sRetO at hp
  cases e : ρ[i]? with
  | none => rw [e] at hp; exact hp.elim
  | some s =>
    rw [e] at hp
    cases s with
    | ow p =>
      obtain ⟨a, o, h1, h2, h3, h4, h5, h6⟩ := ab.own i _ _ e rfl
      have hi : i < ρ.length := (List.getElem?_eq_some_iff.mp e).1
      have ne : ∀ {j : Nat} {s : Sl}, (ρ.set i .un)[j]? = some s → s ≠ .un → j ≠ i ∧ ρ[j]? = some s := fun {j s} ej hs => by
        by_cases hj : j = i
        · subst hj
          rw [List.getElem?_set_self hi] at ej
          cases ej
          exact absurd rfl hs
        · rw [List.getElem?_set_ne (Ne.symm hj)] at ej
          exact ⟨hj, ej⟩
      have nu : ∀ {s : Sl} {q : PV}, s.own? = some q → s ≠ .un := fun {s q} h z => by subst z; cases h
      refine ⟨.ref a, h1, hp (.ref a) S σ H ⟨by rw [List.length_set]; exact ab.len, ab.sub, ab.base, ab.grow, ab.keep, ab.there, fun j q ej => ab.sh j q (ne ej (by intro z; cases z)).2, fun j s q ej es => ab.own j s q (ne ej (nu es)).2 es,
        fun j k s t q r c ej es ek et z z' => ab.dis j k s t q r c (ne ej (nu es)).2 es (ne ek (nu et)).2 et z z'⟩ ?_⟩
      exact ⟨a, o, rfl, h2 rfl, h4, h5, h6, fun j s q ej es z => (ne ej (nu es)).1 (ab.dis j i _ _ _ _ a (ne ej (nu es)).2 es e rfl z h1)⟩
    | _ => exact hp.elim
theorem so_if {tc : TT} {dc : DenB} {t u : TS} {a b : DenS} (hc : TOk K mg W tc dc) (ha : SOk K mg W fr t a) (hb : SOk K mg W fr u b) : SOk K mg W fr (tIfS tc t u) (sIf dc a b) := fun H₀ S₀ M S σ H ρ D ab hp =>
  hc.bindS ab hp fun c ρ1 b' S1 H1 _ a1 _ r hp => by
    cases r
    cases c with
    | true => exact ha H₀ S₀ M S1 σ H1 ρ1 D a1 hp
    | false => exact hb H₀ S₀ M S1 σ H1 ρ1 D a1 hp
theorem so_set {i : Nat} {te : TE} {da : Den} (ha : EOk K mg W te da) : SOk K mg W fr (tAsg te (L2.gName i)) (sSet i da) := fun H₀ S₀ M S σ H ρ D ab hp =>
  ha.bindS ab hp fun p ρ1 v S1 H1 _ a1 _ r hp => hp S1 _ H1 (a1.setSh r)
theorem so_setF {i : Nat} {te : TE} {da : Den} (ha : FOk K mg W te da) : SOk K mg W fr (tAsg te (L2.gName i)) (sSetF i da) := fun H₀ S₀ M S σ H ρ D ab hp =>
  ha.bindS ab hp fun p ρ1 v S1 H1 _ a1 _ r hp => hp S1 _ H1 (a1.setOw r)
theorem so_asg {te : TE} {da : Den} {g : TG} {dg : DenG} (ha : EOk K mg W te da) (hg : GOk K g dg) : SOk K mg W fr (tAsg te g) (sAsg da dg) := fun H₀ S₀ M S σ H ρ D ab hp =>
  ha.bindS ab hp fun p ρ1 v S1 H1 _ a1 _ r hp => by
    cases e : dg p ρ1 with
    | none => simp only [e] at hp; exact hp.elim
    | some ρ2 =>
      simp only [e] at hp
      exact hg H₀ S₀ M S1 σ H1 ρ1 ρ2 p v _ a1 r e fun σ' a2 => hp S1 σ' H1 a2
theorem so_aug {i : Nat} {te : TE} {da : Den} {r : R2} {g : PV → PV → Option PV} (ha : EOk K mg W te da) (hr : V2 K r g) (hs : ∀ p q z, g p q = some z → z.sc = true) : SOk K mg W fr (tAug i te r) (sAug i g da) := fun H₀ S₀ M S σ H ρ D ab hp => by
  unfold sAug at hp
  cases e0 : slot ρ i with
  | none => rw [e0] at hp; exact hp.elim
  | some p0 =>
    rw [e0] at hp
    obtain ⟨v, _, hv, _⟩ := ab.look e0
    refine ⟨v, hv, ha.bindS ab hp fun q ρ1 u S1 H1 _ a1 _ r1 hp => ?_⟩
    cases e1 : slot ρ1 i with
    | none => rw [e1] at hp; exact hp.elim
    | some p =>
      rw [e1] at hp
      obtain ⟨v', S2, hv', s2, s3, r2⟩ := a1.look e1
      rw [hv] at hv'
      cases hv'
      cases e : g p q with
      | none => simp only [e] at hp; exact hp.elim
      | some z =>
        simp only [e] at hp
        exact hr S2 H1 v u p q z _ s3 r2 (r1.up s2) e fun v' S3 H3 st rz => hp S1 _ H3 ((a1.step (step_of a1.sub st)).setSh (rz.sc (hs _ _ _ e)))

/-! ### what changes an owned object in a slot -/
/-- by values: the object at b, the arguments; g: what it becomes, what comes back -/
def MutOk (K : PySem.W.Frag) (r : V → List V → Hp → VK → Prop) (g : PV → List PV → Option (PV × PV)) : Prop :=
  ∀ (S H : Hp) (b : Addr) (o : HO) (p q z : PV) (ps : List PV) (vs : List V) (Q : VK), Same S H → S b = none → H b = some o → OwnO K S p o → RepL K S ps vs → g p ps = some (q, z) → (∀ o' v, OwnO K S q o' → Rep K S z v → Q v (upd H b o')) → r (.ref b) vs H Q
def ownAt (ρ : Env) (i : Nat) : Option (Sl × PV) := match ρ[i]? with
  | some (.ow p) => some (.ow p, p)
  | some (.io p) => some (.io p, p)
  | _ => none
theorem ownAt_some {ρ : Env} {i : Nat} {s : Sl} {p : PV} (h : ownAt ρ i = some (s, p)) : ρ[i]? = some s ∧ s.own? = some p := by
  unfold ownAt at h
  split at h
  · cases h; exact ⟨by assumption, rfl⟩
  · cases h; exact ⟨by assumption, rfl⟩
  · cases h
def isT (T : String) : PV → Bool
  | .lst _ => T = "list"
  | .dic _ _ _ => T = "dict"
  | _ => false
theorem tyV_own {S H : Hp} {T : String} {p : PV} {a : Addr} {o : HO} (h : H a = some o) (w : OwnO K S p o) (t : isT T p = true) : tyV K T (.ref a) H := by
  unfold OwnO at w
  split at w
  · exact .inl ⟨by simpa [isT] using t, _, .inl (.inl h)⟩
  · exact .inr (.inr (.inl ⟨by simpa [isT] using t, .inl ⟨_, h⟩⟩))
  · exact .inr (.inr (.inl ⟨by simpa [isT] using t, .inr ⟨_, h⟩⟩))
  · simp [isT] at t
  · exact w.elim
def dMut (T : String) (g : PV → List PV → Option (PV × PV)) (i : Nat) (da : DenL) : Den := fun ρ => match ownAt ρ i with
  | none => .bad
  | some (_, p0) => if isT T p0 = true then (da ρ).bind fun ps ρ1 => match ownAt ρ1 i with
    | none => .bad
    | some (s, p) => match g p ps with
      | none => .bad
      | some (q, z) => .ok z (ρ1.set i (s.with q))
    else .bad
theorem eo_mut {T : String} {i : Nat} {ta : TA} {da : DenL} {r : V → List V → Hp → VK → Prop} {g : PV → List PV → Option (PV × PV)} (ha : AOk K mg W ta da) (hr : MutOk K r g) : EOk K mg W (tBM K T r (tVar i) ta) (dMut T g i da) := fun H₀ S₀ M S σ H ρ Q ab hp => by
  unfold dMut at hp
  cases e0 : ownAt ρ i with
  | none => rw [e0] at hp; exact hp.elim
  | some sp =>
    obtain ⟨s0, p0⟩ := sp
    rw [e0] at hp
    by_cases ht : isT T p0 = true
    · simp only [if_pos ht] at hp
      obtain ⟨e1, e2⟩ := ownAt_some e0
      obtain ⟨b, o, h1, h2, h3, h4, h5, h6⟩ := ab.own i _ _ e1 e2
      refine ⟨.ref b, h1, tyV_own h5 h6 ht, ?_⟩
      refine ha.bind (Rl' := rV K) ab hp fun ps ρ1 vs S1 H1 _ a1 s1 r1 hp => ?_
      cases e3 : ownAt ρ1 i with
      | none => rw [e3] at hp; exact hp.elim
      | some sp =>
        obtain ⟨s, p⟩ := sp
        rw [e3] at hp
        obtain ⟨e4, e5⟩ := ownAt_some e3
        obtain ⟨b', o', k1, k2, k3, k4, k5, k6⟩ := a1.own i _ _ e4 e5
        rw [h1] at k1
        cases k1
        cases e6 : g p ps with
        | none => simp only [e6] at hp; exact hp.elim
        | some qz =>
          obtain ⟨q, z⟩ := qz
          simp only [e6] at hp
          exact hr S1 H1 b o' p q z ps vs Q a1.sub k4 k5 k6 r1 e6 fun o2 v w2 rz => hp v S1 _ (a1.mut e4 e5 h1 w2) rz
    · simp only [if_neg ht] at hp
      exact hp.elim
def dMut0 (T : String) (g : PV → List PV → Option (PV × PV)) (i : Nat) : Den := fun ρ => match ownAt ρ i with
  | none => .bad
  | some (s, p) => if isT T p = true then (match g p [] with
      | none => .bad
      | some (q, z) => .ok z (ρ.set i (s.with q))) else .bad
theorem eo_mut0 {T : String} {i : Nat} {r : V → List V → Hp → VK → Prop} {g : PV → List PV → Option (PV × PV)} (hr : MutOk K r g) : EOk K mg W (tBM0 K T r (tVar i)) (dMut0 T g i) := fun H₀ S₀ M S σ H ρ Q ab hp => by
  unfold dMut0 at hp
  cases e0 : ownAt ρ i with
  | none => rw [e0] at hp; exact hp.elim
  | some sp =>
    obtain ⟨s, p⟩ := sp
    rw [e0] at hp
    by_cases ht : isT T p = true
    · simp only [if_pos ht] at hp
      obtain ⟨e1, e2⟩ := ownAt_some e0
      obtain ⟨b, o, h1, h2, h3, h4, h5, h6⟩ := ab.own i _ _ e1 e2
      refine ⟨.ref b, h1, tyV_own h5 h6 ht, ?_⟩
      cases e6 : g p [] with
      | none => simp only [e6] at hp; exact hp.elim
      | some qz =>
        obtain ⟨q, z⟩ := qz
        simp only [e6] at hp
        exact hr S H b o p q z [] [] Q ab.sub h4 h5 h6 .nil e6 fun o2 v w2 rz => hp v S _ (ab.mut e1 e2 h1 w2) rz
    · simp only [if_neg ht] at hp
      exact hp.elim
/-- x[e] = v by values -/
def SetOk (K : PySem.W.Frag) (t : TSet) (g : PV → PV → PV → Option PV) : Prop :=
  ∀ (S H : Hp) (b : Addr) (o : HO) (p i e q : PV) (x y : V) (Q : Hp → Prop), Same S H → S b = none → H b = some o → OwnO K S p o → Rep K S i x → Rep K S e y → g p i e = some q → (∀ o', OwnO K S q o' → Q (upd H b o')) → t (.ref b) x y H Q
def sSub (g : PV → PV → PV → Option PV) (i : Nat) (di da : Den) : DenS := fun ρ => (da ρ).bindS fun e ρ1 => match ownAt ρ1 i with
  | none => .bad
  | some _ => (di ρ1).bindS fun k ρ2 => match ownAt ρ2 i with
    | none => .bad
    | some (s, p) => match g p k e with
      | none => .bad
      | some q => .nx (ρ2.set i (s.with q))
theorem so_sub {i : Nat} {ti te : TE} {di da : Den} {t : TSet} {g : PV → PV → PV → Option PV} (hi : EOk K mg W ti di) (ha : EOk K mg W te da) (hr : SetOk K t g) : SOk K mg W fr (tAsg te (gSub (tVar i) ti t)) (sSub g i di da) := fun H₀ S₀ M S σ H ρ D ab hp =>
  ha.bindS ab hp fun e ρ1 y S1 H1 _ a1 _ ry hp => by
    cases e0 : ownAt ρ1 i with
    | none => rw [e0] at hp; exact hp.elim
    | some sp =>
      obtain ⟨s0, p0⟩ := sp
      rw [e0] at hp
      obtain ⟨e1, e2⟩ := ownAt_some e0
      obtain ⟨b, o, h1, h2, h3, h4, h5, h6⟩ := a1.own i _ _ e1 e2
      refine ⟨.ref b, h1, ?_⟩
      refine hi.bindS a1 hp fun k ρ2 x S2 H2 _ a2 s2 rx hp => ?_
      cases e3 : ownAt ρ2 i with
      | none => rw [e3] at hp; exact hp.elim
      | some sp =>
        obtain ⟨s, p⟩ := sp
        rw [e3] at hp
        obtain ⟨e4, e5⟩ := ownAt_some e3
        obtain ⟨b', o', k1, k2, k3, k4, k5, k6⟩ := a2.own i _ _ e4 e5
        rw [h1] at k1
        cases k1
        cases e6 : g p k e with
        | none => simp only [e6] at hp; exact hp.elim
        | some q =>
          simp only [e6] at hp
          exact hr S2 H2 b o' p k e q x y _ a2.sub k4 k5 k6 rx (ry.up s2) e6 fun o2 w2 => hp S2 σ _ (a2.mut e4 e5 h1 w2)

/-! ### loops -/
def ItR (K : PySem.W.Frag) (S H : Hp) (ps : List PV) (J : It) : Prop :=
  ∀ (i : Nat) (S1 H1 : Hp), Same S S1 → Same S1 H1 → (ps.length ≤ i → J.stop i H1) ∧ ∀ p, ps[i]? = some p → J.go i H1 ∧ ∀ x H2, J.yld i H1 x H2 → ∃ S2, Step S1 H1 S2 H2 ∧ Rep K S2 p x
def rIt (K : PySem.W.Frag) : RelT (List PV) It := fun _ S H _ _ ps J => ItR K S H ps J
abbrev IOk (K : PySem.W.Frag) (mg : Str → Option Value) (W : WX) (wi : TI) (d : DenL) : Prop := XOk K mg W (rIt K) wi d
def dLoop (tgt : DenG) (body : DenS) : List PV → DenS
  | [], ρ => .nx ρ
  | x :: xs, ρ => match tgt x ρ with
    | none => .bad
    | some ρ1 => match body ρ1 with
      | .nx ρ2 => dLoop tgt body xs ρ2
      | .ct ρ2 => dLoop tgt body xs ρ2
      | .bk ρ2 => .nx ρ2
      | r => r
def sFor (di : DenL) (tgt : DenG) (body : DenS) : DenS := fun ρ => (di ρ).bindS fun xs ρ1 => dLoop tgt body xs ρ1
theorem so_for {wi : TI} {di : DenL} {g : TG} {dg : DenG} {tb : TS} {db : DenS} (hi : IOk K mg W wi di) (hg : GOk K g dg) (hb : SOk K mg W fr tb db) : SOk K mg W fr (tFor wi g tb) (sFor di dg db) := fun H₀ S₀ M S σ H ρ D ab hp =>
  hi.bindS ab hp fun xs ρ1 J S1 H1 _ a1 _ rj hp => by
    refine ⟨fun i m σ H => m = xs.length - i ∧ i ≤ xs.length ∧ ∃ S ρ, Abs K H₀ S1 M S σ H ρ ∧ SPost K mg W fr H₀ S1 M (dLoop dg db (xs.drop i) ρ) D, ⟨xs.length, by simp, Nat.zero_le _, S1, ρ1, a1.rebase, by
      rw [List.drop_zero]
      exact hp.rebase a1⟩, ?_⟩
    rintro i m σ' H' ⟨rfl, hle, S', ρ', a', hp'⟩
    obtain ⟨js, jg⟩ := rj i S' H' a'.base a'.sub
    by_cases hlt : i < xs.length
    · have ex : xs[i]? = some xs[i] := List.getElem?_eq_getElem hlt
      obtain ⟨j1, j2⟩ := jg _ ex
      rw [List.drop_eq_getElem_cons hlt] at hp'
      refine .inr ⟨j1, fun σ H => i + 1 ≤ xs.length ∧ ∃ S ρ, Abs K H₀ S1 M S σ H ρ ∧ SPost K mg W fr H₀ S1 M (dLoop dg db (xs.drop (i + 1)) ρ) D, fun σ2 H2 hN => ⟨xs.length - (i + 1), by omega, rfl, hN.1, hN.2⟩, fun x H2 y => ?_⟩
      obtain ⟨S2, st, rx⟩ := j2 x H2 y
      unfold dLoop at hp'
      cases e1 : dg xs[i] ρ' with
      | none => simp only [e1] at hp'; exact hp'.elim
      | some ρ2 =>
        simp only [e1] at hp'
        refine hg H₀ S1 M S2 σ' H2 ρ' ρ2 _ x _ (a'.step st) rx e1 fun σ3 a3 => ?_
        refine hb H₀ S1 M S2 σ3 H2 ρ2 _ a3 ?_
        cases e2 : db ρ2 with
        | bad => simp only [e2] at hp'; exact hp'.elim
        | exc x ρ3 => simp only [e2] at hp'; exact hp'
        | rt p ρ3 => simp only [e2] at hp'; exact hp'
        | nx ρ3 => simp only [e2] at hp'; exact fun S4 σ4 H4 a4 => ⟨hlt, S4, ρ3, a4, hp'⟩
        | ct ρ3 => simp only [e2] at hp'; exact fun S4 σ4 H4 a4 => ⟨hlt, S4, ρ3, a4, hp'⟩
        | bk ρ3 => simp only [e2] at hp'; exact fun S4 σ4 H4 a4 => hp' S4 σ4 H4 a4
    · have ei : i = xs.length := by omega
      subst ei
      rw [List.drop_length] at hp'
      exact .inl ⟨js (Nat.le_refl _), hp' S' σ' H' a'⟩
def dWhile (dc : DenB) (db : DenS) : Nat → DenS
  | 0, _ => .bad
  | n + 1, ρ => (dc ρ).bindS fun c ρ1 => if c = true then (match db ρ1 with
      | .nx ρ2 => dWhile dc db n ρ2
      | .ct ρ2 => dWhile dc db n ρ2
      | .bk ρ2 => .nx ρ2
      | r => r) else .nx ρ1
/-- the number of turns is bounded by what the state says ahead of the loop -/
def sWhile (μ : Env → Nat) (dc : DenB) (db : DenS) : DenS := fun ρ => dWhile dc db (μ ρ) ρ
theorem so_while {μ : Env → Nat} {tc : TT} {dc : DenB} {tb : TS} {db : DenS} (hc : TOk K mg W tc dc) (hb : SOk K mg W fr tb db) : SOk K mg W fr (tWhile tc tb) (sWhile μ dc db) := fun H₀ S₀ M S σ H ρ D ab hp => by
  refine ⟨fun m σ H => ∃ S ρ, Abs K H₀ S₀ M S σ H ρ ∧ SPost K mg W fr H₀ S₀ M (dWhile dc db m ρ) D, ⟨μ ρ, S, ρ, ab, hp⟩, ?_⟩
  rintro m σ' H' ⟨S', ρ', a', hp'⟩
  cases m with
  | zero => exact hp'.elim
  | succ n =>
    unfold dWhile at hp'
    refine hc.bindS a' hp' fun c ρ1 b S1 H1 _ a1 _ r hp' => ?_
    cases r
    cases c with
    | false => exact hp' S1 σ' H1 a1
    | true =>
      refine ⟨fun σ H => ∃ S ρ, Abs K H₀ S₀ M S σ H ρ ∧ SPost K mg W fr H₀ S₀ M (dWhile dc db n ρ) D, fun σ2 H2 h2 => ⟨n, Nat.lt_succ_self _, h2⟩, ?_⟩
      refine hb H₀ S₀ M S1 σ' H1 ρ1 _ a1 ?_
      simp only [if_true] at hp'
      cases e2 : db ρ1 with
      | bad => simp only [e2] at hp'; exact hp'.elim
      | exc x ρ3 => simp only [e2] at hp'; exact hp'
      | rt p ρ3 => simp only [e2] at hp'; exact hp'
      | nx ρ3 => simp only [e2] at hp'; exact fun S4 σ4 H4 a4 => ⟨S4, ρ3, a4, hp'⟩
      | ct ρ3 => simp only [e2] at hp'; exact fun S4 σ4 H4 a4 => ⟨S4, ρ3, a4, hp'⟩
      | bk ρ3 => simp only [e2] at hp'; exact fun S4 σ4 H4 a4 => hp' S4 σ4 H4 a4
end
end PL

set_option Elab.async false
set_option linter.all false
set_option maxRecDepth 100000
set_option maxHeartbeats 4000000
namespace PL
open PySem PySem.Spec L2
set_option autoImplicit false

/-! ### comprehensions -/
def Sl.lock : Sl → Sl
  | .ow p => .io p
  | s => s
def Sl.isOw : Sl → Bool
  | .ow _ => true
  | _ => false
/-- the owned slots are lent to the block, its own names are free -/
def lockE : List Nat → Env → Env
  | [], ρ => ρ.map Sl.lock
  | i :: is, ρ => (lockE is ρ).set i .un
def Sl.back : Sl → Sl → Sl
  | .ow _, .io q => .ow q
  | .io _, .io q => .io q
  | _, .sh p => .sh p
  | _, _ => .un
def clean : Sl → Sl
  | .sh p => .sh p
  | _ => .un
def backE (own : List Nat) (ρ ρ' : Env) : Env := (List.range ρ.length).map fun i => if own.contains i then clean (ρ.getD i .un) else Sl.back (ρ.getD i .un) (ρ'.getD i .un)
def noOw : Env → Bool
  | [] => true
  | s :: r => !s.isOw && noOw r
def wipeE : List Nat → Env → Env
  | [], ρ => ρ
  | i :: is, ρ => (wipeE is ρ).set i .un
def lcLoop (own : List Nat) (tgt : DenG) (test : DenB) (elt : Den) : List PV → Env → Option (List PV × Env)
  | [], ρ => some ([], ρ)
  | x :: xs, ρ => match tgt x ρ with
    | none => none
    | some ρ1 => match test ρ1 with
      | .ok true ρ2 => match elt ρ2 with
        | .ok y ρ3 => if noOw ρ3 = true then (match lcLoop own tgt test elt xs (wipeE own ρ3) with
            | some (ys, ρ4) => some (y :: ys, ρ4)
            | none => none) else none
        | _ => none
      | .ok false ρ2 => if noOw ρ2 = true then lcLoop own tgt test elt xs (wipeE own ρ2) else none
      | _ => none
def dLc (own : List Nat) (di : DenL) (tgt : DenG) (test : DenB) (elt : Den) : Den := fun ρ => (di ρ).bind fun xs ρ1 => match lcLoop own tgt test elt xs (lockE own ρ1) with
  | some (ys, ρ2) => if ys.length ≤ 1000000 then .ok (.lst ys) (backE own ρ1 ρ2) else .bad
  | none => .bad
theorem noOw_get : ∀ {ρ : Env} {i : Nat} {p : PV}, noOw ρ = true → ρ[i]? ≠ some (.ow p)
  | [], i, p, _ => by simp
  | s :: r, 0, p, h => by
    intro e
    simp at e
    subst e
    simp [noOw, Sl.isOw] at h
  | s :: r, i + 1, p, h => by
    intro e
    simp [noOw] at h
    exact noOw_get (i := i) h.2 (by simpa using e)
section
variable {K : PySem.W.Frag} {mg : Str → Option Value} {W : WX} {H₀ S₀ : Hp} {M : Addr → Prop} {S H : Hp} {σ : St} {ρ : Env}
/-- slots lose what they held -/
theorem Abs.forget {σ' : St} {ρ' : Env} (a : Abs K H₀ S₀ M S σ H ρ) (hl : ρ'.length = σ'.length) (h : ∀ (i : Nat) s, ρ'[i]? = some s → s ≠ .un → ρ[i]? = some s ∧ σ'[i]? = σ[i]?) : Abs K H₀ S₀ M S σ' H ρ' where
  len := hl
  sub := a.sub
  base := a.base
  grow := a.grow
  keep := a.keep
  there := a.there
  sh := fun i p e => by
    obtain ⟨h1, h2⟩ := h i _ e (by intro z; cases z)
    rw [h2]
    exact a.sh i p h1
  own := fun i s p e es => by
    obtain ⟨h1, h2⟩ := h i _ e (by intro z; subst z; cases es)
    rw [h2]
    exact a.own i s p h1 es
  dis := fun i j s t p q b e es e' es' z z' => by
    obtain ⟨h1, h2⟩ := h i _ e (by intro z; subst z; cases es)
    obtain ⟨k1, k2⟩ := h j _ e' (by intro z; subst z; cases es')
    rw [h2] at z
    rw [k2] at z'
    exact a.dis i j s t p q b h1 es k1 es' z z'
theorem getElem?_wipe {i : Nat} : ∀ {own : List Nat} {σ : St}, i ∉ own → (wipe σ own)[i]? = σ[i]?
  | [], σ, _ => rfl
  | j :: js, σ, h => by
    have hj : j ≠ i := fun e => h (by simp [e])
    have hjs : i ∉ js := fun e => h (by simp [e])
    show ((wipe σ js).set j none)[i]? = σ[i]?
    rw [List.getElem?_set_ne hj]
    exact getElem?_wipe hjs
theorem wipeE_length : ∀ (own : List Nat) (ρ : Env), (wipeE own ρ).length = ρ.length
  | [], _ => rfl
  | i :: is, ρ => by
    show ((wipeE is ρ).set i .un).length = _
    rw [List.length_set, wipeE_length is ρ]
theorem wipeE_get : ∀ {own : List Nat} {ρ : Env} {i : Nat} {s : Sl}, (wipeE own ρ)[i]? = some s → s ≠ .un → i ∉ own ∧ ρ[i]? = some s
  | [], ρ, i, s, e, _ => ⟨by simp, e⟩
  | j :: js, ρ, i, s, e, n => by
    have e : ((wipeE js ρ).set j .un)[i]? = some s := e
    by_cases hj : j = i
    · subst hj
      have hi : j < (wipeE js ρ).length := by
        rcases Nat.lt_or_ge j (wipeE js ρ).length with h | h
        · exact h
        · rw [List.getElem?_eq_none (by rw [List.length_set]; exact h)] at e; cases e
      rw [List.getElem?_set_self hi] at e
      cases e
      exact absurd rfl n
    · rw [List.getElem?_set_ne hj] at e
      obtain ⟨h1, h2⟩ := wipeE_get e n
      exact ⟨by simp [h1, Ne.symm hj], h2⟩
theorem lockE_length : ∀ (own : List Nat) (ρ : Env), (lockE own ρ).length = ρ.length
  | [], ρ => by simp [lockE]
  | i :: is, ρ => by
    show ((lockE is ρ).set i .un).length = _
    rw [List.length_set, lockE_length is ρ]
theorem lockE_get : ∀ {own : List Nat} {ρ : Env} {i : Nat} {s : Sl}, (lockE own ρ)[i]? = some s → s ≠ .un → i ∉ own ∧ ∃ s', ρ[i]? = some s' ∧ s = s'.lock
  | [], ρ, i, s, e, _ => by
    have e : (ρ.map Sl.lock)[i]? = some s := e
    rw [List.getElem?_map] at e
    cases e1 : ρ[i]? with
    | none => rw [e1] at e; cases e
    | some s' =>
      rw [e1] at e
      cases e
      exact ⟨by simp, s', rfl, rfl⟩
  | j :: js, ρ, i, s, e, n => by
    have e : ((lockE js ρ).set j .un)[i]? = some s := e
    by_cases hj : j = i
    · subst hj
      have hi : j < (lockE js ρ).length := by
        rcases Nat.lt_or_ge j (lockE js ρ).length with h | h
        · exact h
        · rw [List.getElem?_eq_none (by rw [List.length_set]; exact h)] at e; cases e
      rw [List.getElem?_set_self hi] at e
      cases e
      exact absurd rfl n
    · rw [List.getElem?_set_ne hj] at e
      obtain ⟨h1, h2⟩ := lockE_get e n
      exact ⟨by simp [h1, Ne.symm hj], h2⟩
def Lent (σ : St) (ρ : Env) (a : Addr) : Prop := ∃ (i : Nat) (s : Sl) (p : PV), ρ[i]? = some s ∧ s.own? = some p ∧ σ[i]? = some (some (.ref a))
theorem wipe_len (σ : St) (own : List Nat) : (wipe σ own).length = σ.length := wipe_length σ own
/-- into the block: what stands now is the base, the owned slots are lent -/
theorem Abs.enter (own : List Nat) (a : Abs K H₀ S₀ M S σ H ρ) : Abs K H S (Lent σ ρ) S (wipe σ own) H (lockE own ρ) where
  len := by rw [lockE_length, wipe_len]; exact a.len
  sub := a.sub
  base := Same.refl _
  grow := fun _ _ e => .inl e
  keep := fun _ _ e _ => e
  there := fun b o e => ⟨o, e⟩
  sh := fun i p e => by
    obtain ⟨h1, s', h2, h3⟩ := lockE_get e (by intro z; cases z)
    rw [getElem?_wipe h1]
    cases s' with
    | sh q => cases h3; exact a.sh i _ h2
    | _ => cases h3
  own := fun i s p e es => by
    obtain ⟨h1, s', h2, h3⟩ := lockE_get e (by intro z; subst z; cases es)
    rw [getElem?_wipe h1]
    have key : ∀ q, s'.own? = some q → s = .io q ∧ p = q := fun q hq => by
      cases s' with
      | ow r => cases hq; subst h3; cases es; exact ⟨rfl, rfl⟩
      | io r => cases hq; subst h3; cases es; exact ⟨rfl, rfl⟩
      | un => cases hq
      | sh r => cases hq
    have hs' : s'.own? = some p := by
      cases s' with
      | ow r => subst h3; cases es; rfl
      | io r => subst h3; cases es; rfl
      | un => subst h3; cases es
      | sh r => subst h3; cases es
    obtain ⟨rfl, _⟩ := key p hs'
    obtain ⟨b, o, k1, k2, k3, k4, k5, k6⟩ := a.own i s' p h2 hs'
    exact ⟨b, o, k1, (fun z => by cases z), fun _ => ⟨i, s', p, h2, hs', k1⟩, k4, k5, k6⟩
  dis := fun i j s t p q b e es e' es' z z' => by
    obtain ⟨h1, s1, h2, h3⟩ := lockE_get e (by intro z; subst z; cases es)
    obtain ⟨k1, s2, k2, k3⟩ := lockE_get e' (by intro z; subst z; cases es')
    rw [getElem?_wipe h1] at z
    rw [getElem?_wipe k1] at z'
    have key : ∀ {s' s : Sl} {p : PV}, s = s'.lock → s.own? = some p → s'.own? = some p := fun {s' s p} h3 es => by
      cases s' with
      | ow r => subst h3; cases es; rfl
      | io r => subst h3; cases es; rfl
      | un => subst h3; cases es
      | sh r => subst h3; cases es
    exact a.dis i j s1 s2 p q b h2 (key h3 es) k2 (key k3 es') z z'
/-- a turn's base is what stands at its start -/
theorem Abs.here (a : Abs K H₀ S₀ M S σ H ρ) (n : noOw ρ = true) : Abs K H S M S σ H ρ where
  len := a.len
  sub := a.sub
  base := Same.refl _
  grow := fun _ _ e => .inl e
  keep := fun _ _ e _ => e
  there := fun b o e => ⟨o, e⟩
  sh := a.sh
  own := fun i s p e es => by
    obtain ⟨b, o, k1, k2, k3, k4, k5, k6⟩ := a.own i s p e es
    refine ⟨b, o, k1, fun z => ?_, k3, k4, k5, k6⟩
    subst z
    exact absurd e (noOw_get n)
  dis := a.dis
theorem Abs.along {S' H' : Hp} {σ' : St} {ρ' : Env} (a : Abs K H₀ S₀ M S σ H ρ) (b : Abs K H S M S' σ' H' ρ') (n : noOw ρ' = true) : Abs K H₀ S₀ M S' σ' H' ρ' where
  len := b.len
  sub := b.sub
  base := a.base.trans b.base
  grow := fun c o e => by
    rcases b.grow c o e with h | h
    · exact a.grow c o h
    · exact .inr (a.nt0 h)
  keep := fun c o e m => b.keep c o (a.keep c o e m) m
  there := fun c o e => by
    obtain ⟨o1, h1⟩ := a.there c o e
    exact b.there c o1 h1
  sh := b.sh
  own := fun i s p e es => by
    obtain ⟨c, o, k1, k2, k3, k4, k5, k6⟩ := b.own i s p e es
    refine ⟨c, o, k1, fun z => ?_, k3, k4, k5, k6⟩
    subst z
    exact absurd e (noOw_get n)
  dis := b.dis
theorem backE_get {own : List Nat} {ρ ρ' : Env} {i : Nat} {s : Sl} (e : (backE own ρ ρ')[i]? = some s) (n : s ≠ .un) :
    (i ∈ own ∧ ∃ p, s = .sh p ∧ ρ[i]? = some (.sh p)) ∨ (i ∉ own ∧ ∃ t t', ρ[i]? = some t ∧ ρ'[i]? = some t' ∧ s = Sl.back t t') := by
  unfold backE at e
  rw [List.getElem?_map] at e
  cases e1 : (List.range ρ.length)[i]? with
  | none => rw [e1] at e; cases e
  | some j =>
    rw [e1] at e
    have hi : i < ρ.length := by
      rcases Nat.lt_or_ge i ρ.length with h | h
      · exact h
      · rw [List.getElem?_eq_none (by simpa using h)] at e1; cases e1
    have hj : i = j := by
      rw [List.getElem?_range hi] at e1
      cases e1; rfl
    subst hj
    have er : ρ.getD i .un = ρ[i] := by simp [List.getD, hi]
    have ei : ρ[i]? = some ρ[i] := List.getElem?_eq_getElem hi
    by_cases hc : own.contains i = true
    · simp only [Option.map_some, hc, if_true, er, Option.some.injEq] at e
      refine .inl ⟨by simpa using hc, ?_⟩
      rw [ei]
      cases ex : ρ[i] with
      | sh p => rw [ex] at e; exact ⟨p, e.symm, rfl⟩
      | _ => rw [ex] at e; exact absurd e.symm n
    · simp only [Option.map_some, hc, Bool.false_eq_true, if_false, er, Option.some.injEq] at e
      refine .inr ⟨by simpa using hc, ?_⟩
      cases e2 : ρ'[i]? with
      | none =>
        have : ρ'.getD i .un = .un := by simp [List.getD, e2]
        rw [this] at e
        cases ex : ρ[i] <;> rw [ex] at e <;> exact absurd e.symm n
      | some t' =>
        have : ρ'.getD i .un = t' := by simp [List.getD, e2]
        rw [this] at e
        exact ⟨_, t', ei, rfl, e.symm⟩
/-- out of the block -/
theorem Abs.exit {own : List Nat} {S1 H1 : Hp} {ρ1 : Env} (a : Abs K H₀ S₀ M S σ H ρ) (b : Abs K H S (Lent σ ρ) S1 (wipe σ own) H1 ρ1) : Abs K H₀ S₀ M S1 σ H1 (backE own ρ ρ1) where
  len := by
    unfold backE
    rw [List.length_map, List.length_range]
    exact a.len
  sub := b.sub
  base := a.base.trans b.base
  grow := fun c o e => by
    rcases b.grow c o e with h | h
    · exact a.grow c o h
    · exact .inr (a.nt0 h)
  keep := fun c o e m => by
    refine b.keep c o (a.keep c o e m) fun ⟨i, s, p, h1, h2, h3⟩ => ?_
    obtain ⟨c', o', k1, k2, k3, _⟩ := a.own i s p h1 h2
    rw [h3] at k1
    cases k1
    cases s with
    | ow q => cases h2; rw [k2 rfl] at e; cases e
    | io q => cases h2; exact m (k3 rfl)
    | un => cases h2
    | sh q => cases h2
  there := fun c o e => by
    obtain ⟨o1, h1⟩ := a.there c o e
    exact b.there c o1 h1
  sh := fun i p e => by
    rcases backE_get e (by intro z; cases z) with ⟨_, q, hq, h2⟩ | ⟨h1, t, t', h2, h3, h4⟩
    · cases hq
      obtain ⟨v, k1, k2⟩ := a.sh i _ h2
      exact ⟨v, k1, k2.up b.base⟩
    · have ht : t' = .sh p := by
        cases t <;> cases t' <;> simp [Sl.back] at h4 <;> first | (subst h4; rfl) | skip
      subst ht
      obtain ⟨v, k1, k2⟩ := b.sh i p h3
      rw [getElem?_wipe h1] at k1
      exact ⟨v, k1, k2⟩
  own := fun i s p e es => by
    rcases backE_get e (by intro z; subst z; cases es) with ⟨_, q, hq, h2⟩ | ⟨h1, t, t', h2, h3, h4⟩
    · subst hq; cases es
    · have ht : t' = .io p ∧ ((∃ q, t = .ow q ∧ s = .ow p) ∨ ∃ q, t = .io q ∧ s = .io p) := by
        cases t <;> cases t' <;> simp [Sl.back] at h4 <;> subst h4 <;> first | (cases es; done) | (cases es; exact ⟨rfl, .inl ⟨_, rfl, rfl⟩⟩) | (cases es; exact ⟨rfl, .inr ⟨_, rfl, rfl⟩⟩)
      obtain ⟨rfl, ht⟩ := ht
      obtain ⟨c, o, k1, k2, k3, k4, k5, k6⟩ := b.own i _ p h3 rfl
      rw [getElem?_wipe h1] at k1
      rcases ht with ⟨q, rfl, rfl⟩ | ⟨q, rfl, rfl⟩
      · obtain ⟨c', o', z1, z2, z3, _⟩ := a.own i _ q h2 rfl
        rw [k1] at z1
        cases z1
        exact ⟨c, o, k1, fun _ => z2 rfl, (fun z => by cases z), k4, k5, k6⟩
      · obtain ⟨c', o', z1, z2, z3, _⟩ := a.own i _ q h2 rfl
        rw [k1] at z1
        cases z1
        exact ⟨c, o, k1, (fun z => by cases z), fun _ => z3 rfl, k4, k5, k6⟩
  dis := fun i j s t p q c e es e' es' z z' => by
    have key : ∀ {i : Nat} {s : Sl} {p : PV}, (backE own ρ ρ1)[i]? = some s → s.own? = some p → i ∉ own ∧ ρ1[i]? = some (.io p) := fun {i s p} e es => by
      rcases backE_get e (by intro z; subst z; cases es) with ⟨_, q, hq, h2⟩ | ⟨h1, t, t', h2, h3, h4⟩
      · subst hq; cases es
      · have ht : t' = .io p := by
          cases t <;> cases t' <;> simp [Sl.back] at h4 <;> subst h4 <;> first | (cases es; done) | (cases es; rfl)
        subst ht
        exact ⟨h1, h3⟩
    obtain ⟨h1, h2⟩ := key e es
    obtain ⟨k1, k2⟩ := key e' es'
    exact b.dis i j _ _ _ _ c h2 rfl k2 rfl (by rw [getElem?_wipe h1]; exact z) (by rw [getElem?_wipe k1]; exact z')

theorem noOw_map : ∀ l : Env, noOw (l.map Sl.lock) = true
  | [] => rfl
  | s :: r => by cases s <;> simp [noOw, Sl.lock, Sl.isOw, noOw_map r]
theorem noOw_set : ∀ (l : Env) (i : Nat), noOw l = true → noOw (l.set i .un) = true
  | [], _, h => h
  | s :: r, 0, h => by
    simp [noOw] at h ⊢
    exact ⟨rfl, h.2⟩
  | s :: r, i + 1, h => by
    simp [noOw] at h ⊢
    exact ⟨h.1, noOw_set r i h.2⟩
theorem noOw_lockE : ∀ (own : List Nat) (ρ : Env), noOw (lockE own ρ) = true
  | [], ρ => noOw_map ρ
  | i :: is, ρ => noOw_set _ _ (noOw_lockE is ρ)
theorem noOw_wipeE : ∀ (own : List Nat) (ρ : Env), noOw ρ = true → noOw (wipeE own ρ) = true
  | [], _, h => h
  | i :: is, ρ, h => noOw_set _ _ (noOw_wipeE is ρ h)
theorem wipe_set : ∀ {own : List Nat} {i : Nat} {x : Option V} {σ : St}, i ∈ own → wipe (σ.set i x) own = wipe σ own
  | j :: js, i, x, σ, h => by
    show (wipe (σ.set i x) js).set j none = (wipe σ js).set j none
    by_cases hj : i ∈ js
    · rw [wipe_set hj]
    · have e : i = j := by
        rcases List.mem_cons.mp h with e | e
        · exact e
        · exact absurd e hj
      subst e
      apply List.ext_getElem?
      intro k
      by_cases hk : k = i
      · subst hk
        by_cases hl : k < σ.length
        · rw [List.getElem?_set_self (by rw [wipe_len, List.length_set]; exact hl), List.getElem?_set_self (by rw [wipe_len]; exact hl)]
        · rw [List.getElem?_eq_none (by rw [List.length_set, wipe_len, List.length_set]; omega), List.getElem?_eq_none (by rw [List.length_set, wipe_len]; omega)]
      · rw [List.getElem?_set_ne (Ne.symm hk), List.getElem?_set_ne (Ne.symm hk)]
        by_cases hkj : k ∈ js
        · have w0 : ∀ {l : List Nat} {τ : St}, k ∈ l → (wipe τ l)[k]? = (if k < τ.length then some none else none) := fun {l} => by
            induction l with
            | nil => intro τ h; cases h
            | cons a r ih =>
              intro τ h
              show ((wipe τ r).set a none)[k]? = _
              by_cases ha : a = k
              · subst ha
                by_cases hl : a < τ.length
                · rw [List.getElem?_set_self (by rw [wipe_len]; exact hl), if_pos hl]
                · rw [List.getElem?_eq_none (by rw [List.length_set, wipe_len]; omega), if_neg hl]
              · rw [List.getElem?_set_ne ha]
                rcases List.mem_cons.mp h with e | e
                · exact absurd e.symm ha
                · exact ih e
          rw [w0 hkj, w0 hkj, List.length_set]
        · rw [getElem?_wipe hkj, getElem?_wipe hkj, List.getElem?_set_ne (Ne.symm hk)]
theorem wipe_wipe : ∀ (own : List Nat) (σ : St), wipe (wipe σ own) own = wipe σ own := fun own σ => by
  have key : ∀ (l : List Nat) (τ : St), (∀ i ∈ l, i ∈ own) → wipe (wipe τ l) own = wipe τ own := fun l => by
    induction l with
    | nil => intro τ _; rfl
    | cons a r ih =>
      intro τ h
      show wipe ((wipe τ r).set a none) own = _
      rw [wipe_set (h a List.mem_cons_self)]
      exact ih τ fun i hi => h i (List.mem_cons_of_mem _ hi)
  exact key own σ fun _ h => h
/-- a target stores to these slots alone -/
def TgW (own : List Nat) (g : TG) : Prop := ∀ (v : V) (τ : St) (H : Hp) (Q : St → Hp → Prop), g v τ H Q → g v τ H fun σ2 H2 => wipe σ2 own = wipe τ own ∧ Q σ2 H2
def TgsW (own : List Nat) (g : TGs) : Prop := ∀ (v : List V) (τ : St) (H : Hp) (Q : St → Hp → Prop), g v τ H Q → g v τ H fun σ2 H2 => wipe σ2 own = wipe τ own ∧ Q σ2 H2
/-- a target's wish may be weakened -/
theorem tw_name {own : List Nat} {i : Nat} (h : i ∈ own) : TgW own (L2.gName i) := fun v τ H Q q => ⟨wipe_set h, q⟩
theorem tws_nil {own : List Nat} : TgsW own L2.gNil := fun v τ H Q q => ⟨q.1, rfl, q.2⟩
theorem tws_name {own : List Nat} {i : Nat} {gs : TGs} (h : i ∈ own) (hs : TgsW own gs) : TgsW own (L2.gCons (L2.gName i) gs) := fun v τ H Q q => by
  obtain ⟨x, r, e, q⟩ := q
  refine ⟨x, r, e, ?_⟩
  have q : gs r (τ.set i (some x)) H Q := q
  have z := hs r _ H Q q
  rw [wipe_set h] at z
  exact z
theorem tw_tup {own : List Nat} {n : Nat} {gs : TGs} (h : TgsW own gs) : TgW own (L2.gTup K n gs) := fun v τ H Q q => by
  obtain ⟨a, xs, e, h1, h2, q⟩ := q
  exact ⟨a, xs, e, h1, h2, h _ _ _ _ q⟩
def GMono (g : TG) : Prop := ∀ (v : V) (τ : St) (H : Hp) (Q Q' : St → Hp → Prop), (∀ σ H, Q σ H → Q' σ H) → g v τ H Q → g v τ H Q'
def GsMono (g : TGs) : Prop := ∀ (v : List V) (τ : St) (H : Hp) (Q Q' : St → Hp → Prop), (∀ σ H, Q σ H → Q' σ H) → g v τ H Q → g v τ H Q'
theorem gm_name {i : Nat} : GMono (L2.gName i) := fun v τ H Q Q' h q => h _ _ q
theorem gms_nil : GsMono L2.gNil := fun v τ H Q Q' h q => ⟨q.1, h _ _ q.2⟩
theorem gms_cons {g : TG} {gs : TGs} (h1 : GMono g) (h2 : GsMono gs) : GsMono (L2.gCons g gs) := fun v τ H Q Q' h q => by
  obtain ⟨x, r, e, q⟩ := q
  exact ⟨x, r, e, h1 _ _ _ _ _ (fun σ H z => h2 _ _ _ _ _ h z) q⟩
theorem gm_tup {n : Nat} {gs : TGs} (h : GsMono gs) : GMono (L2.gTup K n gs) := fun v τ H Q Q' h' q => by
  obtain ⟨a, xs, e, h1, h2, q⟩ := q
  exact ⟨a, xs, e, h1, h2, h _ _ _ _ _ h' q⟩
/-- an object that no slot owns changes -/
theorem Abs.other {D : Addr} {o : HO} (a : Abs K H₀ S₀ M S σ H ρ) (h0 : H₀ D = none) (hS : S D = none) (hn : ∀ (i : Nat) s p, ρ[i]? = some s → s.own? = some p → σ[i]? ≠ some (some (.ref D))) : Abs K H₀ S₀ M S σ (upd H D o) ρ where
  len := a.len
  sub := fun b x e => by
    rw [upd_ne (fun z => by rw [z, hS] at e; cases e)]
    exact a.sub _ _ e
  base := a.base
  grow := a.grow
  keep := fun b x e m => by
    rw [upd_ne (fun z => by rw [z, h0] at e; cases e)]
    exact a.keep _ _ e m
  there := fun b x e => by
    rw [upd_ne (fun z => by rw [z, h0] at e; cases e)]
    exact a.there _ _ e
  sh := a.sh
  own := fun i s p e es => by
    obtain ⟨c, o', k1, k2, k3, k4, k5, k6⟩ := a.own i s p e es
    refine ⟨c, o', k1, k2, k3, k4, ?_, k6⟩
    rw [upd_ne, k5]
    intro z
    subst z
    exact hn i s p e es k1
  dis := a.dis
/-- a comprehension's walk: in its block nothing is raised -/
theorem lc_inner {g : TG} {dg : DenG} {tt : TT} {dt : DenB} {te : TE} {de : Den} {own : List Nat} {H₀ S₀ : Hp} {M : Addr → Prop} {S1 H1 : Hp} {σ : St} {ρ1 : Env} {Q : VK} {xs : List PV} {J : It} (hg : GOk K g dg) (hgw : TgW own g) (hgm : GMono g) (ht : TOk K mg (fun _ _ _ _ => False) tt dt) (he : EOk K mg (fun _ _ _ _ => False) te de) (a1 : Abs K H₀ S₀ M S1 σ H1 ρ1) (rj : ItR K S1 H1 xs J)
    (hp : Post K mg W (rF K) H₀ S₀ M σ (match lcLoop own dg dt de xs (lockE own ρ1) with
      | some (ys, ρ2) => if ys.length ≤ 1000000 then .ok (.lst ys) (backE own ρ1 ρ2) else .bad
      | none => .bad) Q) : ∀ D, H1 D = none → ∃ W : Nat → Nat → Hp → Prop, (∃ m, W 0 m (upd H1 D (.lst []))) ∧ ∀ i m H, W i m H →
  (J.stop i H ∧ Q (.ref D) H) ∨ (J.go i H ∧ ∃ Nx : Hp → Prop, (∀ H', Nx H' → ∃ m', m' < m ∧ W (i + 1) m' H') ∧ ∀ x H', J.yld i H x H' → g x (wipe σ own) H' fun σ2 H2 => wipe σ2 own = wipe σ own ∧ tt σ2 H2 fun b H3 =>
    if b = true then te σ2 H3 fun y H4 => ∃ acc, H4 D = some (.lst acc) ∧ acc.length < sizeLine ∧ Nx (upd H4 D (.lst (acc ++ [y]))) else Nx H3) := by
  intro D hD
  cases eL : lcLoop own dg dt de xs (lockE own ρ1) with
  | none => simp only [eL] at hp; exact hp.elim
  | some yr =>
    obtain ⟨ys, ρ2⟩ := yr
    simp only [eL] at hp
    by_cases hlen : ys.length ≤ 1000000
    · rw [if_pos hlen] at hp
      have hsz : (1000000 : Nat) < sizeLine := by rw [sizeLine_eq]; decide
      have nL : ¬ Lent σ ρ1 D := fun ⟨i, s, p, h1, h2, h3⟩ => by
        obtain ⟨c, o, k1, _, _, _, k5, _⟩ := a1.own i s p h1 h2
        rw [h3] at k1
        cases k1
        rw [hD] at k5; cases k5
      have nOwn : ∀ {S' : Hp} {σ' : St} {H' : Hp} {ρ' : Env}, Abs K H1 S1 (Lent σ ρ1) S' σ' H' ρ' → ∀ (i : Nat) s p, ρ'[i]? = some s → s.own? = some p → noOw ρ' = true → σ'[i]? ≠ some (some (.ref D)) := fun {S' σ' H' ρ'} a i s p e es no z => by
        obtain ⟨c, o, k1, k2, k3, _⟩ := a.own i s p e es
        rw [z] at k1
        cases k1
        cases s with
        | io q => cases es; exact nL (k3 rfl)
        | ow q => exact noOw_get no e
        | un => cases es
        | sh q => cases es
      refine ⟨fun i m H => m = xs.length - i ∧ i ≤ xs.length ∧ ∃ S ρ acc ps zs, Abs K H1 S1 (Lent σ ρ1) S (wipe σ own) H ρ ∧ noOw ρ = true ∧ H D = some (.lst acc) ∧ S D = none ∧ RepL K S ps acc ∧ lcLoop own dg dt de (xs.drop i) ρ = some (zs, ρ2) ∧ ys = ps ++ zs,
        ⟨xs.length, by simp, Nat.zero_le _, S1, lockE own ρ1, [], [], ys, (a1.enter own).step (Step.hid a1.sub hD), noOw_lockE _ _, upd_same, Same.free a1.sub hD, .nil, by rw [List.drop_zero]; exact eL, rfl⟩, ?_⟩
      rintro i m H' ⟨rfl, hle, S', ρ', acc, ps, zs, a', no', hD', sD', rp, eL', eys⟩
      obtain ⟨js, jg⟩ := rj i S' H' a'.base a'.sub
      by_cases hlt : i < xs.length
      · have ex : xs[i]? = some xs[i] := List.getElem?_eq_getElem hlt
        obtain ⟨j1, j2⟩ := jg _ ex
        rw [List.drop_eq_getElem_cons hlt] at eL'
        unfold lcLoop at eL'
        cases e1 : dg xs[i] ρ' with
        | none => simp only [e1] at eL'; cases eL'
        | some ρa =>
          simp only [e1] at eL'
          refine .inr ⟨j1, fun H => i + 1 ≤ xs.length ∧ ∃ S ρ acc ps zs, Abs K H1 S1 (Lent σ ρ1) S (wipe σ own) H ρ ∧ noOw ρ = true ∧ H D = some (.lst acc) ∧ S D = none ∧ RepL K S ps acc ∧ lcLoop own dg dt de (xs.drop (i + 1)) ρ = some (zs, ρ2) ∧ ys = ps ++ zs,
            fun H2 hN => ⟨xs.length - (i + 1), by omega, rfl, hN.1, hN.2⟩, fun x H2 y => ?_⟩
          obtain ⟨S2, st, rx⟩ := j2 x H2 y
          have aS := a'.step st
          have aT : Abs K H2 S2 (Lent σ ρ1) S2 (wipe σ own) H2 ρ' := aS.here no'
          have D2 : H2 D = some (.lst acc) := st.h _ _ hD'
          have sD2 : S2 D = none := by
            cases q : S2 D with
            | none => rfl
            | some o =>
              rcases st.new D o q with z | z | ⟨us, z⟩
              · rw [sD'] at z; cases z
              · rw [hD'] at z; cases z
              · subst z
                have z := (aS.sub _ _ q).symm.trans D2
                cases z
          have hg1 := hg H2 S2 (Lent σ ρ1) S2 (wipe σ own) H2 ρ' ρa xs[i] x (fun σ2 H2' => H2' = H2 ∧ Abs K H2 S2 (Lent σ ρ1) S2 σ2 H2 ρa) aT rx e1 fun σ2 a2 => ⟨rfl, a2⟩
          have hg2 := hgw x (wipe σ own) H2 _ hg1
          have body : ∀ σ2 H2', (wipe σ2 own = wipe (wipe σ own) own ∧ H2' = H2 ∧ Abs K H2 S2 (Lent σ ρ1) S2 σ2 H2 ρa) → (wipe σ2 own = wipe σ own ∧ tt σ2 H2' fun b H3 =>
              if b = true then te σ2 H3 fun y H4 => ∃ acc, H4 D = some (.lst acc) ∧ acc.length < sizeLine ∧ (fun H => i + 1 ≤ xs.length ∧ ∃ S ρ acc ps zs, Abs K H1 S1 (Lent σ ρ1) S (wipe σ own) H ρ ∧ noOw ρ = true ∧ H D = some (.lst acc) ∧ S D = none ∧ RepL K S ps acc ∧ lcLoop own dg dt de (xs.drop (i + 1)) ρ = some (zs, ρ2) ∧ ys = ps ++ zs) (upd H4 D (.lst (acc ++ [y])))
              else (fun H => i + 1 ≤ xs.length ∧ ∃ S ρ acc ps zs, Abs K H1 S1 (Lent σ ρ1) S (wipe σ own) H ρ ∧ noOw ρ = true ∧ H D = some (.lst acc) ∧ S D = none ∧ RepL K S ps acc ∧ lcLoop own dg dt de (xs.drop (i + 1)) ρ = some (zs, ρ2) ∧ ys = ps ++ zs) H3) := by
            rintro σ2 H2' ⟨hw, rfl, a2⟩
            rw [wipe_wipe] at hw
            refine ⟨hw, ?_⟩
            -- back to the wiped slots
            have bk : ∀ {S3 H3 : Hp} {ρ3 : Env}, Abs K H2' S2 (Lent σ ρ1) S3 σ2 H3 ρ3 → noOw ρ3 = true → Abs K H1 S1 (Lent σ ρ1) S3 (wipe σ own) H3 (wipeE own ρ3) := fun {S3 H3 ρ3} a3 no3 => by
              refine (aS.along a3 no3).forget ?_ fun j s e n => ?_
              · rw [wipeE_length, a3.len, ← wipe_len σ2 own, hw]
              · obtain ⟨h1, h2⟩ := wipeE_get e n
                refine ⟨h2, ?_⟩
                rw [← hw, getElem?_wipe h1]
            have kD : ∀ {S3 H3 : Hp} {ρ3 : Env}, Abs K H2' S2 (Lent σ ρ1) S3 σ2 H3 ρ3 → H3 D = some (.lst acc) ∧ S3 D = none := fun {S3 H3 ρ3} a3 => by
              refine ⟨a3.keep D _ D2 nL, ?_⟩
              cases q : S3 D with
              | none => rfl
              | some o =>
                rcases a3.grow D o q with z | z | ⟨us, z⟩
                · rw [sD2] at z; cases z
                · rw [D2] at z; cases z
                · subst z
                  have z := (a3.sub _ _ q).symm.trans (a3.keep D _ D2 nL)
                  cases z
            refine ht H2' S2 (Lent σ ρ1) S2 σ2 H2' ρa _ a2 ?_
            cases e2 : dt ρa with
            | bad => simp only [e2] at eL'; cases eL'
            | exc x ρb => simp only [e2] at eL'; cases eL'
            | ok b ρb =>
              intro b' S3 H3 a3 rb
              cases rb
              simp only [e2] at eL'
              cases b with
              | false =>
                simp only [Bool.false_eq_true, if_false]
                by_cases no3 : noOw ρb = true
                · simp only [if_pos no3] at eL'
                  obtain ⟨d1, d2⟩ := kD a3
                  exact ⟨hlt, S3, wipeE own ρb, acc, ps, zs, bk a3 no3, noOw_wipeE _ _ no3, d1, d2, rp.up (st.s.trans a3.base), eL', eys⟩
                · simp only [if_neg no3] at eL'; cases eL'
              | true =>
                simp only [if_true]
                have a3' : Abs K H2' S3 (Lent σ ρ1) S3 σ2 H3 ρb := a3.rebase
                refine he H2' S3 (Lent σ ρ1) S3 σ2 H3 ρb _ a3' ?_
                cases e3 : de ρb with
                | bad => simp only [e3] at eL'; cases eL'
                | exc x ρc => simp only [e3] at eL'; cases eL'
                | ok y ρc =>
                  intro z S4 H4 a4' rz
                  have a4 := a3.unbase a4'
                  simp only [e3] at eL'
                  by_cases no4 : noOw ρc = true
                  · simp only [if_pos no4] at eL'
                    cases e5 : lcLoop own dg dt de (xs.drop (i + 1)) (wipeE own ρc) with
                    | none => simp only [e5] at eL'; cases eL'
                    | some yr =>
                      obtain ⟨ys', ρ4⟩ := yr
                      simp only [e5] at eL'
                      cases eL'
                      obtain ⟨d1, d2⟩ := kD a4
                      have hl : acc.length < 1000000 := by
                        have z1 := rp.length
                        have z2 := congrArg List.length eys
                        rw [List.length_append, List.length_cons] at z2
                        omega
                      refine ⟨acc, d1, by omega, hlt, S4, wipeE own ρc, acc ++ [z], ps ++ [y], ys', (bk a4 no4).other hD d2 fun j s p e es => nOwn (bk a4 no4) j s p e es (noOw_wipeE _ _ no4), noOw_wipeE _ _ no4, upd_same, d2,
                        (rp.up (st.s.trans a4.base)).append (.cons rz .nil), e5, by rw [eys, List.append_assoc]; rfl⟩
                  · simp only [if_neg no4] at eL'; cases eL'
          exact hgm x (wipe σ own) H2 _ _ body hg2
      · have ei : i = xs.length := by omega
        subst ei
        rw [List.drop_length] at eL'
        unfold lcLoop at eL'
        cases eL'
        rw [List.append_nil] at eys
        subst eys
        refine .inl ⟨js (Nat.le_refl _), hp (.ref D) S' H' (a1.exit a') ⟨D, .lst acc, rfl, a1.none0 hD, sD', hD', rp, fun j s q ej es z => ?_⟩⟩
        have a2 := a1.exit a'
        obtain ⟨c, o, k1, k2, k3, k4, k5, k6⟩ := a2.own j s q ej es
        rcases backE_get ej (by intro w; subst w; cases es) with ⟨_, q', hq, _⟩ | ⟨h1, t, t', h2, h3, h4⟩
        · subst hq; cases es
        · have ht : ∃ p, t'.own? = some p := by
            cases t <;> cases t' <;> simp [Sl.back] at h4 <;> subst h4 <;> first | (cases es; done) | exact ⟨_, rfl⟩
          obtain ⟨p, hp'⟩ := ht
          exact nOwn a' j t' p h3 hp' no' (by rw [getElem?_wipe h1]; exact z)
    · rw [if_neg hlen] at hp
      exact hp.elim
theorem fo_lc {wi : TI} {di : DenL} {g : TG} {dg : DenG} {tt : TT} {dt : DenB} {te : TE} {de : Den} {own : List Nat} (hi : IOk K mg W wi di) (hg : GOk K g dg) (hgw : TgW own g) (hgm : GMono g) (ht : TOk K mg (fun _ _ _ _ => False) tt dt) (he : EOk K mg (fun _ _ _ _ => False) te de) :
    FOk K mg W (tLc wi g tt te own) (dLc own di dg dt de) := fun H₀ S₀ M S σ H ρ Q ab hp =>
  hi.bind (Rl' := rF K) ab hp fun xs ρ1 J S1 H1 _ a1 _ rj hp => lc_inner hg hgw hgm ht he a1 rj hp
end
end PL

set_option Elab.async false
set_option linter.all false
set_option maxRecDepth 100000
set_option maxHeartbeats 4000000
namespace PL
open PySem PySem.Spec L2
set_option autoImplicit false

/-! ### defs: what they are promised to be -/
inductive FR where
  | bad | exc (x : Exn) | ok (p : PV) (q : PV)
/-- the parameters' slots at the entry; io: the first one is an object that the def may change -/
def argSl (io : Bool) (ps : List PV) : Env := match io, ps with
  | true, p :: r => .io p :: r.map .sh
  | _, ps => ps.map .sh
def ioSet (io : Bool) (ps : List PV) (q : PV) : List PV := if io = true then ps.set 0 q else ps
def spD (K : PySem.W.Frag) (mg : Str → Option Value) (io fr : Bool) (n : Nat) (F : List PV → FR) : Sp := fun vs H Q E => vs.length = n ∧ ∃ (S : Hp) (M : Addr → Prop) (ps : List PV),
  (∀ a b, M a → M b → a = b) ∧ Abs K H S M S (vs.map some) H (argSl io ps) ∧ (io = true → ps ≠ []) ∧
  match F ps with
  | .bad => False
  | .exc x => ∀ cls d S' H', Abs K H S M S' [] H' [] → ExcRep K mg S' H' x cls d → E cls d H'
  | .ok p q => ∀ v S' H', Abs K H S M S' (vs.map some) H' (argSl io (ioSet io ps q)) → RetRep fr K H S' H' [] [] p v → Q v H'
def io0 : Env → Option PV
  | .io q :: _ => some q
  | _ => none
theorem io0_get {ρ : Env} {q : PV} (h : io0 ρ = some q) : ρ[0]? = some (.io q) := by
  unfold io0 at h
  split at h
  · cases h; rfl
  · cases h
def fin0 (io : Bool) (p : PV) (ρ : Env) : FR := if io = true then (match io0 ρ with
  | some q => .ok p q
  | none => .bad) else .ok p .non
def runD (io fr : Bool) (n len : Nat) (d : DenS) (ps : List PV) : FR :=
  if ps.length = n then
    match d (argSl io ps ++ List.replicate (len - n) .un) with
    | .rt p ρ => fin0 io p ρ
    | .nx ρ => if fr = true then .bad else fin0 io .non ρ
    | .exc x _ => .exc x
    | _ => .bad
  else .bad
theorem argSl_length (io : Bool) (ps : List PV) : (argSl io ps).length = ps.length := by
  unfold argSl
  split <;> simp
theorem argSl_get {io : Bool} {ps : List PV} {i : Nat} {s : Sl} (e : (argSl io ps)[i]? = some s) : ∃ p, ps[i]? = some p ∧ ((s = .sh p ∧ (io = true → i ≠ 0)) ∨ (s = .io p ∧ io = true ∧ i = 0)) := by
  unfold argSl at e
  split at e
  · rename_i p r
    cases i with
    | zero =>
      simp at e
      exact ⟨p, rfl, .inr ⟨e.symm, rfl, rfl⟩⟩
    | succ j =>
      simp at e
      obtain ⟨q, h1, h2⟩ := e
      exact ⟨q, by simpa using h1, .inl ⟨h2.symm, fun _ => by simp⟩⟩
  · rename_i hio
    rw [List.getElem?_map] at e
    cases h : ps[i]? with
    | none => rw [h] at e; cases e
    | some p =>
      rw [h] at e
      cases e
      refine ⟨p, rfl, .inl ⟨rfl, fun z => ?_⟩⟩
      subst z
      cases ps with
      | nil => simp at h
      | cons a r => exact (hio a r rfl rfl).elim
section
variable {K : PySem.W.Frag} {mg : Str → Option Value} {W : WX} {fr : Bool} {H₀ S₀ : Hp} {M : Addr → Prop} {S H : Hp} {σ : St} {ρ : Env}
/-- nothing is known of the slots -/
theorem Abs.bare (a : Abs K H₀ S₀ M S σ H ρ) : Abs K H₀ S₀ M S [] H [] := a.forget rfl fun i s e => by simp at e
/-- what a call without a lent object did -/
theorem Abs.toStep {S' H' : Hp} {σ' : St} {ρ' : Env} {M : Addr → Prop} (a : Abs K H S M S' σ' H' ρ') (h : ∀ b, ¬ M b) : Step S H S' H' :=
  ⟨a.base, fun b o e => a.keep b o e (h b), a.sub, a.grow⟩
def dCall (F : List PV → FR) (da : DenL) : Den := fun ρ => (da ρ).bind fun ps ρ1 => match F ps with
  | .bad => .bad
  | .exc x => .exc x ρ1
  | .ok p _ => .ok p ρ1
theorem call_pre {n : Nat} {F : List PV → FR} {fr' : Bool} {vs : List V} {ps : List PV} {Q : VK} {E : XK} (a : Abs K H₀ S₀ M S σ H ρ) (r : RepL K S ps vs) (hl : ps.length = n)
    (h : match F ps with
      | .bad => False
      | .exc x => ∀ cls d S' H', Step S H S' H' → ExcRep K mg S' H' x cls d → E cls d H'
      | .ok p q => ∀ v S' H', Step S H S' H' → RetRep fr' K H S' H' [] [] p v → Q v H') : spD K mg false fr' n F vs H Q E := by
  refine ⟨by rw [← r.length, hl], S, fun _ => False, ps, fun _ _ z => z.elim, ⟨?_, a.sub, Same.refl _, fun _ _ e => .inl e, fun _ _ e _ => e, fun b o e => ⟨o, e⟩, fun i p e => ?_, fun i s p e es => ?_, fun i j s t p q c e es => ?_⟩, (fun z => by cases z), ?_⟩
  · rw [argSl_length, List.length_map, r.length]
  · obtain ⟨p', h1, h2⟩ := argSl_get e
    rcases h2 with ⟨h2, _⟩ | ⟨_, z, _⟩
    · cases h2
      obtain ⟨v, h3, h4⟩ := r.get h1
      exact ⟨v, by rw [List.getElem?_map, h3]; rfl, h4⟩
    · cases z
  · obtain ⟨p', h1, h2⟩ := argSl_get e
    rcases h2 with ⟨h2, _⟩ | ⟨_, z, _⟩
    · subst h2; cases es
    · cases z
  · obtain ⟨p', h1, h2⟩ := argSl_get e
    rcases h2 with ⟨h2, _⟩ | ⟨_, z, _⟩
    · subst h2; cases es
    · cases z
  · cases e : F ps with
    | bad => simp only [e] at h
    | exc x => simp only [e] at h; exact fun cls d S' H' a' => h cls d S' H' (a'.toStep fun _ z => z)
    | ok p q => simp only [e] at h; exact fun v S' H' a' => h v S' H' (a'.toStep fun _ z => z)
theorem eo_call {n : Nat} {F : List PV → FR} {ta : TA} {da : DenL} (ha : AOk K mg W ta da) (hn : ∀ ps, F ps ≠ .bad → ps.length = n) : EOk K mg W (tCallS (spD K mg false false n F) (WE W) ta) (dCall F da) := fun H₀ S₀ M S σ H ρ Q ab hp =>
  ha.bind (Rl' := rV K) ab hp fun ps ρ1 vs S1 H1 _ a1 _ r hp => by
    cases e : F ps with
    | bad => simp only [e] at hp; exact hp.elim
    | exc x =>
      simp only [e] at hp
      refine call_pre a1 r (hn ps (by rw [e]; intro z; cases z)) ?_
      simp only [e]
      exact fun cls d S' H' st re => hp cls d S' H' (a1.step st) re
    | ok p q =>
      simp only [e] at hp
      refine call_pre a1 r (hn ps (by rw [e]; intro z; cases z)) ?_
      simp only [e]
      exact fun v S' H' st rv => hp v S' H' (a1.step st) rv
theorem fresh_call {S' H' : Hp} {p : PV} {v : V} (a : Abs K H₀ S₀ M S σ H ρ) (f : Fr K H S' H' [] [] p v) : Fr K H₀ S' H' σ ρ p v := by
  obtain ⟨c, o, e, h1, h2, h3, h4, _⟩ := f
  refine ⟨c, o, e, a.none0 h1, h2, h3, h4, fun j s q ej es z => ?_⟩
  obtain ⟨c', o', k1, _, _, _, k5, _⟩ := a.own j s q ej es
  rw [z] at k1
  cases k1
  rw [h1] at k5; cases k5
theorem fo_call {n : Nat} {F : List PV → FR} {ta : TA} {da : DenL} (ha : AOk K mg W ta da) (hn : ∀ ps, F ps ≠ .bad → ps.length = n) : FOk K mg W (tCallS (spD K mg false true n F) (WE W) ta) (dCall F da) := fun H₀ S₀ M S σ H ρ Q ab hp =>
  ha.bind (Rl' := rF K) ab hp fun ps ρ1 vs S1 H1 _ a1 _ r hp => by
    cases e : F ps with
    | bad => simp only [e] at hp; exact hp.elim
    | exc x =>
      simp only [e] at hp
      refine call_pre a1 r (hn ps (by rw [e]; intro z; cases z)) ?_
      simp only [e]
      exact fun cls d S' H' st re => hp cls d S' H' (a1.step st) re
    | ok p q =>
      simp only [e] at hp
      refine call_pre a1 r (hn ps (by rw [e]; intro z; cases z)) ?_
      simp only [e]
      exact fun v S' H' st rv => hp v S' H' (a1.step st) (fresh_call a1 rv)

/-! ### a call that lends the first argument, an owned object in a slot -/
def dCallIo (F : List PV → FR) (i : Nat) (da : DenL) : Den := fun ρ => match ownAt ρ i with
  | none => .bad
  | some _ => (da ρ).bind fun ps ρ1 => match ownAt ρ1 i with
    | none => .bad
    | some (s, p) => match F (p :: ps) with
      | .bad => .bad
      | .exc x => .exc x (ρ1.set i .un)
      | .ok z q => .ok z (ρ1.set i (s.with q))
/-- behind a call that was lent the object at b -/
theorem Abs.lentBack {i : Nat} {s : Sl} {p q : PV} {b : Addr} {S' H' : Hp} {o' : HO} (a : Abs K H₀ S₀ M S σ H ρ) (e : ρ[i]? = some s) (es : s.own? = some p) (hb : σ[i]? = some (some (.ref b)))
    (st : Same S S' ∧ Same S' H' ∧ (∀ c o, S' c = some o → S c = some o ∨ NT H c o) ∧ (∀ c o, H c = some o → c ≠ b → H' c = some o) ∧ ∀ c o, H c = some o → ∃ o', H' c = some o') (hS : S' b = none) (hH : H' b = some o') (w : OwnO K S' q o') :
    Abs K H₀ S₀ M S' σ H' (ρ.set i (s.with q)) := by
  obtain ⟨s1, s2, s3, s4, s5⟩ := st
  obtain ⟨b', ob, h1, h2, h3, h4, h5, h6⟩ := a.own i s p e es
  rw [hb] at h1
  cases h1
  have hi : i < ρ.length := (List.getElem?_eq_some_iff.mp e).1
  have hw : (s.with q).own? = some q := by
    cases s with
    | ow r => rfl
    | io r => rfl
    | un => cases es
    | sh r => cases es
  have nb : ∀ c o, H₀ c = some o → ¬ M c → c ≠ b := fun c o e0 m z => by
    subst z
    cases s with
    | ow r => cases es; rw [h2 rfl] at e0; cases e0
    | io r => cases es; exact m (h3 rfl)
    | un => cases es
    | sh r => cases es
  refine ⟨by rw [List.length_set]; exact a.len, s2, a.base.trans s1, fun c o z => ?_, fun c o z m => s4 c o (a.keep c o z m) (nb c o z m), fun c o z => ?_, fun j r ej => ?_, fun j t r ej et => ?_, fun j k t u r r' c ej et ek eu z z' => ?_⟩
  · rcases s3 c o z with z | z
    · exact a.grow c o z
    · exact .inr (a.nt0 z)
  · obtain ⟨o1, h⟩ := a.there c o z
    exact s5 c o1 h
  · by_cases hj : j = i
    · subst hj
      rw [List.getElem?_set_self hi] at ej
      have z := Option.some.inj ej
      rw [z] at hw; cases hw
    · rw [List.getElem?_set_ne (Ne.symm hj)] at ej
      obtain ⟨v, k1, k2⟩ := a.sh j r ej
      exact ⟨v, k1, k2.up s1⟩
  · by_cases hj : j = i
    · subst hj
      rw [List.getElem?_set_self hi] at ej
      have z := Option.some.inj ej
      subst z
      rw [hw] at et
      cases et
      refine ⟨b, o', hb, fun z => ?_, fun z => ?_, hS, hH, w⟩
      · cases s with
        | ow r => cases es; exact h2 rfl
        | io r => cases z
        | un => cases es
        | sh r => cases es
      · cases s with
        | io r => cases es; exact h3 rfl
        | ow r => cases z
        | un => cases es
        | sh r => cases es
    · rw [List.getElem?_set_ne (Ne.symm hj)] at ej
      obtain ⟨c, o2, z1, z2, z3, z4, z5, z6⟩ := a.own j t r ej et
      have hc : c ≠ b := fun z => by
        subst z
        exact hj (a.dis j i _ _ _ _ c ej et e es z1 hb)
      refine ⟨c, o2, z1, z2, z3, ?_, s4 c o2 z5 hc, z6.up s1⟩
      cases q' : S' c with
      | none => rfl
      | some o3 =>
        rcases s3 c o3 q' with z | z | ⟨us, z⟩
        · rw [z4] at z; cases z
        · rw [z5] at z; cases z
        · subst z
          have z := (s2 _ _ q').symm.trans (s4 c o2 z5 hc)
          cases z
          exact (OwnO.noTup z6).elim
  · have key : ∀ {j : Nat} {t : Sl} {r : PV}, (ρ.set i (s.with q))[j]? = some t → t.own? = some r → ∃ t' r', ρ[j]? = some t' ∧ t'.own? = some r' := fun {j t r} ej et => by
      by_cases hj : j = i
      · subst hj; exact ⟨s, p, e, es⟩
      · rw [List.getElem?_set_ne (Ne.symm hj)] at ej; exact ⟨t, r, ej, et⟩
    obtain ⟨t1, r1, e1, e2⟩ := key ej et
    obtain ⟨t2, r2, e3, e4⟩ := key ek eu
    exact a.dis j k _ _ _ _ c e1 e2 e3 e4 z z'
theorem Abs.lentGone {i : Nat} {s : Sl} {p : PV} {b : Addr} {S' H' : Hp} (a : Abs K H₀ S₀ M S σ H ρ) (e : ρ[i]? = some s) (es : s.own? = some p) (hb : σ[i]? = some (some (.ref b)))
    (st : Same S S' ∧ Same S' H' ∧ (∀ c o, S' c = some o → S c = some o ∨ NT H c o) ∧ (∀ c o, H c = some o → c ≠ b → H' c = some o) ∧ ∀ c o, H c = some o → ∃ o', H' c = some o') :
    Abs K H₀ S₀ M S' σ H' (ρ.set i .un) := by
  obtain ⟨s1, s2, s3, s4, s5⟩ := st
  obtain ⟨b', ob, h1, h2, h3, h4, h5, h6⟩ := a.own i s p e es
  rw [hb] at h1
  cases h1
  have hi : i < ρ.length := (List.getElem?_eq_some_iff.mp e).1
  have nb : ∀ c o, H₀ c = some o → ¬ M c → c ≠ b := fun c o e0 m z => by
    subst z
    cases s with
    | ow r => cases es; rw [h2 rfl] at e0; cases e0
    | io r => cases es; exact m (h3 rfl)
    | un => cases es
    | sh r => cases es
  have ne : ∀ {j : Nat} {s : Sl}, (ρ.set i .un)[j]? = some s → s ≠ .un → j ≠ i ∧ ρ[j]? = some s := fun {j s} ej hs => by
    by_cases hj : j = i
    · subst hj
      rw [List.getElem?_set_self hi] at ej
      cases ej
      exact absurd rfl hs
    · rw [List.getElem?_set_ne (Ne.symm hj)] at ej
      exact ⟨hj, ej⟩
  have nu : ∀ {s : Sl} {q : PV}, s.own? = some q → s ≠ .un := fun {s q} h z => by subst z; cases h
  refine ⟨by rw [List.length_set]; exact a.len, s2, a.base.trans s1, fun c o z => ?_, fun c o z m => s4 c o (a.keep c o z m) (nb c o z m), fun c o z => ?_, fun j r ej => ?_, fun j t r ej et => ?_, fun j k t u r r' c ej et ek eu z z' => ?_⟩
  · rcases s3 c o z with z | z
    · exact a.grow c o z
    · exact .inr (a.nt0 z)
  · obtain ⟨o1, h⟩ := a.there c o z
    exact s5 c o1 h
  · obtain ⟨v, k1, k2⟩ := a.sh j r (ne ej (by intro z; cases z)).2
    exact ⟨v, k1, k2.up s1⟩
  · obtain ⟨hj, ej⟩ := ne ej (nu et)
    obtain ⟨c, o2, z1, z2, z3, z4, z5, z6⟩ := a.own j t r ej et
    have hc : c ≠ b := fun z => by
      subst z
      exact hj (a.dis j i _ _ _ _ c ej et e es z1 hb)
    refine ⟨c, o2, z1, z2, z3, ?_, s4 c o2 z5 hc, z6.up s1⟩
    cases q' : S' c with
    | none => rfl
    | some o3 =>
      rcases s3 c o3 q' with z | z | ⟨us, z⟩
      · rw [z4] at z; cases z
      · rw [z5] at z; cases z
      · subst z
        have z := (s2 _ _ q').symm.trans (s4 c o2 z5 hc)
        cases z
        exact (OwnO.noTup z6).elim
  · exact a.dis j k t u r r' c (ne ej (nu et)).2 et (ne ek (nu eu)).2 eu z z'
theorem callIo_pre {n : Nat} {F : List PV → FR} {fr' : Bool} {i : Nat} {s : Sl} {p : PV} {b : Addr} {vs : List V} {ps : List PV} {Q : VK} {E : XK} (a : Abs K H₀ S₀ M S σ H ρ) (e : ρ[i]? = some s) (es : s.own? = some p) (hb : σ[i]? = some (some (.ref b))) (r : RepL K S ps vs) (hl : ps.length + 1 = n)
    (h : match F (p :: ps) with
      | .bad => False
      | .exc x => ∀ cls d S' H', Abs K H₀ S₀ M S' σ H' (ρ.set i .un) → ExcRep K mg S' H' x cls d → E cls d H'
      | .ok z q => ∀ v S' H', Abs K H₀ S₀ M S' σ H' (ρ.set i (s.with q)) → RetRep fr' K H₀ S' H' σ (ρ.set i (s.with q)) z v → Q v H') : spD K mg true fr' n F (.ref b :: vs) H Q E := by
  obtain ⟨b', ob, h1, h2, h3, h4, h5, h6⟩ := a.own i s p e es
  rw [hb] at h1
  cases h1
  refine ⟨by rw [List.length_cons, ← r.length]; exact hl, S, fun c => c = b, p :: ps, fun _ _ z z' => z.trans z'.symm, ⟨?_, a.sub, Same.refl _, fun _ _ e => .inl e, fun _ _ e _ => e, fun b o e => ⟨o, e⟩, fun j q ej => ?_, fun j t q ej et => ?_, fun j k t u q q' c ej et ek eu _ _ => ?_⟩, (fun _ z => by cases z), ?_⟩
  · rw [argSl_length, List.length_map, List.length_cons, List.length_cons, r.length]
  · obtain ⟨p', k1, k2⟩ := argSl_get ej
    rcases k2 with ⟨k2, k3⟩ | ⟨k2, _, _⟩
    · cases k2
      cases j with
      | zero => exact absurd rfl (k3 rfl)
      | succ j =>
        obtain ⟨v, h3, h4⟩ := r.get (i := j) (by simpa using k1)
        exact ⟨v, by rw [List.getElem?_map, List.getElem?_cons_succ, h3]; rfl, h4⟩
    · cases k2
  · obtain ⟨p', k1, k2⟩ := argSl_get ej
    rcases k2 with ⟨k2, _⟩ | ⟨k2, _, k3⟩
    · subst k2; cases et
    · subst k2; subst k3
      cases et
      cases k1
      exact ⟨b, ob, rfl, (fun z => by cases z), fun _ => rfl, h4, h5, h6⟩
  · obtain ⟨_, _, k2⟩ := argSl_get ej
    obtain ⟨_, _, k4⟩ := argSl_get ek
    rcases k2 with ⟨k2, _⟩ | ⟨_, _, k3⟩
    · subst k2; cases et
    · rcases k4 with ⟨k4, _⟩ | ⟨_, _, k5⟩
      · subst k4; cases eu
      · rw [k3, k5]
  · have facts : ∀ {S' H' : Hp} {σ' : St} {ρ' : Env}, Abs K H S (fun c => c = b) S' σ' H' ρ' → Same S S' ∧ Same S' H' ∧ (∀ c o, S' c = some o → S c = some o ∨ NT H c o) ∧ (∀ c o, H c = some o → c ≠ b → H' c = some o) ∧ ∀ c o, H c = some o → ∃ o', H' c = some o' :=
      fun {S' H' σ' ρ'} a' => ⟨a'.base, a'.sub, a'.grow, fun c o z n => a'.keep c o z n, a'.there⟩
    cases eF : F (p :: ps) with
    | bad => simp only [eF] at h
    | exc x =>
      simp only [eF] at h
      exact fun cls d S' H' a' => h cls d S' H' (a.lentGone e es hb (facts a'))
    | ok z q =>
      simp only [eF] at h
      intro v S' H' a' rv
      obtain ⟨c, o', k1, k2, k3, k4, k5, k6⟩ := a'.own 0 (.io q) q (by simp [argSl, ioSet]) rfl
      have hc : c = b := k3 rfl
      subst hc
      have aN := a.lentBack e es hb (facts a') k4 k5 k6
      refine h v S' H' aN ?_
      unfold RetRep at rv ⊢
      cases fr' with
      | false => simpa using rv
      | true =>
        simp only [if_true] at rv ⊢
        obtain ⟨c', o2, e2, f1, f2, f3, f4, _⟩ := rv
        refine ⟨c', o2, e2, a.none0 f1, f2, f3, f4, fun j t r ej et z => ?_⟩
        have key : ∃ t' r', ρ[j]? = some t' ∧ t'.own? = some r' := by
          by_cases hj : j = i
          · subst hj; exact ⟨s, p, e, es⟩
          · rw [List.getElem?_set_ne (Ne.symm hj)] at ej; exact ⟨t, r, ej, et⟩
        obtain ⟨t', r', e3, e4⟩ := key
        obtain ⟨c3, o3, y1, _, _, _, y5, _⟩ := a.own j t' r' e3 e4
        rw [z] at y1
        cases y1
        rw [f1] at y5; cases y5
theorem XOk.callIo {n : Nat} {F : List PV → FR} {fr' : Bool} {i : Nat} {ta : TA} {da : DenL} (ha : AOk K mg W ta da) (hn : ∀ ps, F ps ≠ .bad → ps.length = n) (Rl : RelT PV V) (hR : ∀ H₀ S H σ ρ p v, RetRep fr' K H₀ S H σ ρ p v → Rl H₀ S H σ ρ p v) :
    XOk K mg W Rl (tCallS (spD K mg true fr' n F) (WE W) (tCons (tVar i) ta)) (dCallIo F i da) := fun H₀ S₀ M S σ H ρ Q ab hp => by
  unfold dCallIo at hp
  cases e0 : ownAt ρ i with
  | none => rw [e0] at hp; exact hp.elim
  | some sp =>
    obtain ⟨s0, p0⟩ := sp
    rw [e0] at hp
    obtain ⟨e1, e2⟩ := ownAt_some e0
    obtain ⟨b, o, h1, _⟩ := ab.own i _ _ e1 e2
    refine ⟨.ref b, h1, ?_⟩
    refine ha.bind (Rl' := Rl) ab hp fun ps ρ1 vs S1 H1 _ a1 _ r hp => ?_
    cases e3 : ownAt ρ1 i with
    | none => rw [e3] at hp; exact hp.elim
    | some sp =>
      obtain ⟨s, p⟩ := sp
      rw [e3] at hp
      obtain ⟨e4, e5⟩ := ownAt_some e3
      cases eF : F (p :: ps) with
      | bad => simp only [eF] at hp; exact hp.elim
      | exc x =>
        simp only [eF] at hp
        refine callIo_pre a1 e4 e5 h1 r (by simpa using hn (p :: ps) (by rw [eF]; intro z; cases z)) ?_
        simp only [eF]
        exact fun cls d S' H' a2 re => hp cls d S' H' a2 re
      | ok z q =>
        simp only [eF] at hp
        refine callIo_pre a1 e4 e5 h1 r (by simpa using hn (p :: ps) (by rw [eF]; intro z; cases z)) ?_
        simp only [eF]
        exact fun v S' H' a2 rv => hp v S' H' a2 (hR _ _ _ _ _ _ _ rv)
theorem eo_callIo {n : Nat} {F : List PV → FR} {i : Nat} {ta : TA} {da : DenL} (ha : AOk K mg W ta da) (hn : ∀ ps, F ps ≠ .bad → ps.length = n) : EOk K mg W (tCallS (spD K mg true false n F) (WE W) (tCons (tVar i) ta)) (dCallIo F i da) :=
  XOk.callIo ha hn (rV K) fun _ _ _ _ _ _ _ h => h
theorem fo_callIo {n : Nat} {F : List PV → FR} {i : Nat} {ta : TA} {da : DenL} (ha : AOk K mg W ta da) (hn : ∀ ps, F ps ≠ .bad → ps.length = n) : FOk K mg W (tCallS (spD K mg true true n F) (WE W) (tCons (tVar i) ta)) (dCallIo F i da) :=
  XOk.callIo ha hn (rF K) fun _ _ _ _ _ _ _ h => h

/-! ### a def by its body -/
theorem body_ok {io fr : Bool} {n len : Nat} {t : TS} {d : DenS} {vs : List V} {H : Hp} {Q : VK} {E : XK} (hb : SOk K mg (fun cls dd _ H => E cls dd H) fr t d) (hl : n ≤ len) (h : spD K mg io fr n (runD io fr n len d) vs H Q E) :
    t { nx := fun _ H' => Q .non H', rt := Q } (vs.map some ++ List.replicate (len - vs.length) none) H := by
  obtain ⟨hv, S, M, ps, hM, ab, hne, h⟩ := h
  have hps : ps.length = n := by
    have z := ab.len
    rw [argSl_length, List.length_map] at z
    omega
  have start : Abs K H S M S (vs.map some ++ List.replicate (len - vs.length) none) H (argSl io ps ++ List.replicate (len - n) .un) := by
    refine ab.forget ?_ fun i s e hs => ?_
    · rw [List.length_append, List.length_append, argSl_length, List.length_replicate, List.length_replicate, List.length_map]
      omega
    · have hi : i < (argSl io ps).length := by
        rcases Nat.lt_or_ge i (argSl io ps).length with h | h
        · exact h
        · rw [List.getElem?_append_right h, List.getElem?_replicate] at e
          split at e
          · cases e; exact absurd rfl hs
          · cases e
      rw [List.getElem?_append_left hi] at e
      refine ⟨e, ?_⟩
      rw [List.getElem?_append_left (by rw [← ab.len]; exact hi)]
  -- back at the parameters
  have back : ∀ {S' : Hp} {σ' : St} {H' : Hp} {ρ' : Env} {q : PV}, Abs K H S M S' σ' H' ρ' → (io = true → ρ'[0]? = some (.io q)) → Abs K H S M S' (vs.map some) H' (argSl io (ioSet io ps q)) := fun {S' σ' H' ρ' q} a hq => by
    have il : (ioSet io ps q).length = ps.length := by unfold ioSet; split <;> simp
    refine ⟨by rw [argSl_length, il, ← argSl_length io ps]; exact ab.len, a.sub, a.base, a.grow, a.keep, a.there, fun i p e => ?_, fun i s p e es => ?_, fun i j s t p p' c e es e' es' z z' => ?_⟩
    · obtain ⟨p', k1, k2⟩ := argSl_get e
      rcases k2 with ⟨k2, k3⟩ | ⟨k2, _, _⟩
      · cases k2
        have e0 : ps[i]? = some p := by
          unfold ioSet at k1
          by_cases hio : io = true
          · rw [if_pos hio, List.getElem?_set_ne (Ne.symm (k3 hio))] at k1
            exact k1
          · rw [if_neg hio] at k1
            exact k1
        have e1 : (argSl io ps)[i]? = some (.sh p) := by
          unfold argSl
          split
          · rename_i r
            cases i with
            | zero => exact absurd rfl (k3 rfl)
            | succ i => simp at e0 ⊢; exact e0
          · simp [e0]
        obtain ⟨v, z1, z2⟩ := ab.sh i p e1
        exact ⟨v, z1, z2.up a.base⟩
      · cases k2
    · obtain ⟨p', k1, k2⟩ := argSl_get e
      rcases k2 with ⟨k2, k3⟩ | ⟨k2, hio, hi⟩
      · subst k2; cases es
      · subst k2; subst hi
        cases es
        unfold ioSet at k1
        rw [if_pos hio] at k1
        have hpq : p = q := by
          cases ps with
          | nil => simp at k1
          | cons a r => simp at k1; exact k1.symm
        subst hpq
        obtain ⟨c, o, z1, z2, z3, z4, z5, z6⟩ := a.own 0 _ _ (hq hio) rfl
        cases ps with
        | nil => exact absurd rfl (hne hio)
        | cons a0 r =>
          subst hio
          obtain ⟨c', o', y1, y2, y3, y4, y5, y6⟩ := ab.own 0 (.io a0) a0 (by simp [argSl]) rfl
          have hcc : c = c' := hM c c' (z3 rfl) (y3 rfl)
          subst hcc
          exact ⟨c, o, y1, (fun z => by cases z), fun _ => z3 rfl, z4, z5, z6⟩
    · obtain ⟨_, _, k2⟩ := argSl_get e
      obtain ⟨_, _, k4⟩ := argSl_get e'
      rcases k2 with ⟨k2, _⟩ | ⟨_, _, k3⟩
      · subst k2; cases es
      · rcases k4 with ⟨k4, _⟩ | ⟨_, _, k5⟩
        · subst k4; cases es'
        · rw [k3, k5]
  have rb : ∀ {S' : Hp} {σ' : St} {H' : Hp} {ρ' : Env} {p : PV} {v : V}, RetRep fr K H S' H' σ' ρ' p v → RetRep fr K H S' H' [] [] p v := fun {S' σ' H' ρ' p v} r => by
    unfold RetRep at r ⊢
    cases fr with
    | false => simpa using r
    | true =>
      simp only [if_true] at r ⊢
      obtain ⟨c, o, e, f1, f2, f3, f4, _⟩ := r
      exact ⟨c, o, e, f1, f2, f3, f4, fun j s q ej => by simp at ej⟩
  refine hb H S M S _ H _ _ start ?_
  unfold runD at h
  rw [if_pos hps] at h
  cases eR : d (argSl io ps ++ List.replicate (len - n) .un) with
  | bad => simp only [eR] at h
  | exc x ρ' => simp only [eR] at h; exact fun cls dd S' σ' H' a r => h cls dd S' H' a.bare r
  | bk ρ' => simp only [eR] at h
  | ct ρ' => simp only [eR] at h
  | nx ρ' =>
    simp only [eR] at h
    intro S' σ' H' a
    by_cases hf : fr = true
    · rw [if_pos hf] at h; exact h.elim
    · rw [if_neg hf] at h
      have rN : RetRep fr K H S' H' [] [] .non .non := by
        unfold RetRep
        rw [if_neg hf]
        exact .non
      unfold fin0 at h
      by_cases hio : io = true
      · rw [if_pos hio] at h
        cases e0 : io0 ρ' with
        | none => rw [e0] at h; exact h.elim
        | some q => rw [e0] at h; exact h .non S' H' (back a fun _ => io0_get e0) rN
      · rw [if_neg hio] at h
        exact h .non S' H' (back a fun z => absurd z hio) rN
  | rt p ρ' =>
    simp only [eR] at h
    intro v S' σ' H' a r
    unfold fin0 at h
    by_cases hio : io = true
    · rw [if_pos hio] at h
      cases e0 : io0 ρ' with
      | none => rw [e0] at h; exact h.elim
      | some q => rw [e0] at h; exact h v S' H' (back a fun _ => io0_get e0) (rb r)
    · rw [if_neg hio] at h
      exact h v S' H' (back a fun z => absurd z hio) (rb r)
end
/-- THE RULE for a def -/
theorem fn_ok {P : Program} {w : World} {K : PySem.W.Frag} {mg : Str → Option Value} {base : Heap} {x qual : Str} {st : Stmt} {f : Addr} {fd : FuncData} {N ps : List Str} {k : Nat} {io fr : Bool} {d : DenS} (F : Fun K x qual st f fd) (S : FnScope N ps (defScope st))
    (hl : ps.length ≤ N.length)
    (hbody : ∀ (cdv : Value) (A : Around) (outer : List PySem.Env) (s : Shared) (H : Hp) (E : XK), Room k (A.deeper (PyProof.Rows.envOfC qual (defScope st) s.heap.objs.size f cdv)) →
      ∃ t, PSs (cxOf (L2.CX P w) P w K mg base N qual (defScope st) f cdv A outer s H E) (defBody st) t ∧ SOk K mg (fun cls dd _ H => E cls dd H) fr t d) :
    FnOk P w K mg base (L2.CX P w) (k + 1) f fd ps (spD K mg io fr ps.length (runD io fr ps.length N.length d)) :=
  F.okX S (fun vs H Q E h => h.1) fun cdv A outer s H vs Q E hr h => by
    obtain ⟨t, h1, h2⟩ := hbody cdv A outer s H E hr
    refine ⟨t, h1, ?_⟩
    have z := body_ok h2 hl h
    exact z
/-- a promise by a function that agrees -/
theorem fn_eq {P : Program} {w : World} {K : PySem.W.Frag} {mg : Str → Option Value} {base : Heap} {CX : CXT} {k n : Nat} {f : Addr} {fd : FuncData} {ps : List Str} {io fr : Bool} {F G : List PV → FR} (h : FnOk P w K mg base CX k f fd ps (spD K mg io fr n F)) (e : ∀ ps, G ps ≠ .bad → F ps = G ps) :
    FnOk P w K mg base CX k f fd ps (spD K mg io fr n G) := h.imp fun vs H Q E q => by
  obtain ⟨h1, S, M, qs, h2, h3, h4, h5⟩ := q
  refine ⟨h1, S, M, qs, h2, h3, h4, ?_⟩
  cases eG : G qs with
  | bad => rw [eG] at h5; exact h5.elim
  | exc x => rw [e qs (by rw [eG]; intro z; cases z), eG]; rw [eG] at h5; exact h5
  | ok p q => rw [e qs (by rw [eG]; intro z; cases z), eG]; rw [eG] at h5; exact h5
end PL

set_option Elab.async false
set_option linter.all false
set_option maxRecDepth 100000
set_option maxHeartbeats 4000000
namespace PL
open PySem PySem.Spec L2
set_option autoImplicit false

/-! ### plain values as data -/
mutual
def PV.toD : PV → PyData
  | .non => .none
  | .bl b => .bool b
  | .int i => .int i
  | .str x => .str x
  | .lst ps => .list (toDs ps)
  | .tup ps => .tuple (toDs ps)
  | .ktup ps => .tuple (toDs ps)
  | .dic _ _ _ => .dict []
  | .fn _ => .dict []
  | .obj _ _ _ => .dict []
  | .klst _ => .dict []
def toDs : List PV → List PyData
  | [] => []
  | p :: ps => p.toD :: toDs ps
end
section
variable {K : PySem.W.Frag} {S H : Hp}
mutual
theorem Rep.dp (e : Same S H) : ∀ (p : PV) (v : V), Rep K S p v → p.toD.canLay0 = true → Dp K H v p.toD
  | .non, _, h, _ => by cases h; exact .non
  | .bl b, _, h, _ => by cases h; exact .bl b
  | .int i, _, h, _ => by cases h; exact .int i
  | .str x, _, h, _ => by cases h; exact .str x
  | .fn a, _, h, c => by simp [PV.toD, PyData.canLay0] at c
  | .obj a _ _, _, h, c => by simp [PV.toD, PyData.canLay0] at c
  | .lst ps, _, h, c => by
    cases h with
    | lst h1 h2 => exact .lst (.inl (.inl (e _ _ h1))) (RepL.dp e ps _ h2 (by simpa [PV.toD, PyData.canLay0] using c))
  | .tup ps, _, h, c => by
    cases h with
    | tup h1 h2 => exact .tup (.inl (.inl (e _ _ h1))) (RepL.dp e ps _ h2 (by simpa [PV.toD, PyData.canLay0] using c))
  | .ktup ps, _, h, c => by
    cases h with
    | ktup h1 h2 => exact .tup (Same.tupK e h1) (RepL.dp e ps _ h2 (by simpa [PV.toD, PyData.canLay0] using c))
  | .dic t ks ps, _, h, c => by simp [PV.toD, PyData.canLay0] at c
  | .klst ps, _, h, c => by simp [PV.toD, PyData.canLay0] at c
theorem RepL.dp (e : Same S H) : ∀ (ps : List PV) (vs : List V), RepL K S ps vs → PyData.canLayAll0 (toDs ps) = true → DpAll K H vs (toDs ps)
  | [], _, h, _ => by cases h; exact .nil
  | p :: ps, _, h, c => by
    cases h with
    | cons h1 h2 =>
      have c' : p.toD.canLay0 = true ∧ PyData.canLayAll0 (toDs ps) = true := by simpa [toDs, PyData.canLayAll0] using c
      exact .cons (Rep.dp e p _ h1 c'.1) (RepL.dp e ps _ h2 c'.2)
end
end

/-! ### operations on plain values -/
def gAdd : PV → PV → Option PV
  | .int i, .int j => some (.int (i + j))
  | .str x, .str y => if x.length + y.length ≤ sizeLine then some (.str (x ++ y)) else none
  | .lst xs, .lst ys => if xs.length + ys.length ≤ sizeLine then some (.lst (xs ++ ys)) else none
  | .tup xs, .tup ys => if xs.length + ys.length ≤ sizeLine then some (.tup (xs ++ ys)) else none
  | _, _ => none
def gCat : PV → PV → Option PV := fun p q => match p, q with
    | .lst xs, .lst ys => if xs.length + ys.length ≤ sizeLine then some (.lst (xs ++ ys)) else none
    | _, _ => none
def gRep : PV → PV → Option PV := fun p q => match p, q with
    | .lst xs, .int k => if decide (-(2 ^ 63) ≤ k) && decide (k < 2 ^ 63) && decide (xs.length * k.toNat ≤ sizeLine) then some (.lst (List.replicate k.toNat xs).flatten) else none
    | _, _ => none
def gSub : PV → PV → Option PV
  | .int i, .int j => some (.int (i - j))
  | _, _ => none
def smallI (i : Int) : Bool := decide (-(2 ^ 64) < i) && decide (i < 2 ^ 64)
def gMul : PV → PV → Option PV
  | .int i, .int j => if smallI i || smallI j then some (.int (i * j)) else none
  | .lst xs, .int k => if decide (-(2 ^ 63) ≤ k) && decide (k < 2 ^ 63) && decide (xs.length * k.toNat ≤ sizeLine) then some (.lst (List.replicate k.toNat xs).flatten) else none
  | _, _ => none
def gFdiv : PV → PV → Option PV
  | .int i, .int j => if decide (0 < j) && decide (j < 1073741824) then some (.int (i / j)) else none
  | _, _ => none
def gMod : PV → PV → Option PV
  | .int i, .int j => if decide (0 < j) then some (.int (i % j)) else none
  | _, _ => none
def gPow : PV → PV → Option PV
  | .int i, .int j => if decide (0 ≤ j) && decide (j ≤ 1000000) && decide (i.natAbs < 2 ^ 64) then some (.int (i ^ j.toNat)) else none
  | _, _ => none
def gNeg : PV → Option PV
  | .int i => some (.int (-i))
  | _ => none
def gCmpI (f : Int → Int → Bool) : PV → PV → Option PV
  | .int i, .int j => some (.bl (f i j))
  | _, _ => none
abbrev gLt := gCmpI fun i j => decide (i < j)
abbrev gLe := gCmpI fun i j => decide (i ≤ j)
abbrev gGt := gCmpI fun i j => decide (j < i)
abbrev gGe := gCmpI fun i j => decide (j ≤ i)
def pvEq (p q : PV) : Bool := PyData.eqv p.toD q.toD
def gEq (p q : PV) : Option PV := if SeqAt.shaped p.toD && SeqAt.shaped q.toD then some (.bl (pvEq p q)) else none
def gNe (p q : PV) : Option PV := if SeqAt.shaped p.toD && SeqAt.shaped q.toD then some (.bl (!pvEq p q)) else none
def gIsN (neg : Bool) : PV → PV → Option PV
  | .non, .non => some (.bl (!neg))
  | .fn _, .non => none
  | _, .non => some (.bl neg)
  | _, _ => none
/-- one sign of a text -/
def sgn1 (x : Str) : Option Nat := match x.cps.toList with
  | [c] => some c
  | _ => none
def gIn (neg : Bool) : PV → PV → Option PV
  | .str x, .str z => (sgn1 x).map fun c => .bl (if neg then !decide (c ∈ z.cps.toList) else decide (c ∈ z.cps.toList))
  | p, .lst ps => if SeqAt.shaped p.toD && SeqAt.shaped (PV.lst ps).toD then some (.bl (if neg then !ps.any (fun y => pvEq y p) else ps.any fun y => pvEq y p)) else none
  | _, _ => none
def gIx : PV → PV → Option PV
  | .lst ps, .int i => atI ps i
  | .tup ps, .int i => atI ps i
  | .ktup ps, .int i => atI ps i
  | .klst ps, .int i => atI ps i
  | .str z, .int i => if z.length ≤ sizeLine then (atI z.cps.toList i).map fun c => .str ⟨#[c]⟩ else none
  | _, _ => none
def cutP {α : Type} (xs : List α) (lo hi : Option Int) : List α := (xs.drop (HT.sIx xs.length 0 lo)).take (HT.sIx xs.length xs.length hi - HT.sIx xs.length 0 lo)
def gLen : PV → Option PV
  | .lst ps => some (.int ps.length)
  | .tup ps => some (.int ps.length)
  | .ktup ps => some (.int ps.length)
  | .klst ps => some (.int ps.length)
  | .str z => if z.length ≤ sizeLine then some (.int z.length) else none
  | _ => none
def ints? : List PV → Option (List Int)
  | [] => some []
  | .int i :: r => (ints? r).map (i :: ·)
  | _ :: _ => none
def strs? : List PV → Option (List Str)
  | [] => some []
  | .str i :: r => (strs? r).map (i :: ·)
  | _ :: _ => none
def gSum : PV → Option PV
  | .lst ps => (ints? ps).map fun ns => .int ns.sum
  | _ => none
section
variable {K : PySem.W.Frag}
theorem RepL.ints {S : Hp} : ∀ {ps : List PV} {vs : List V} {ns : List Int}, RepL K S ps vs → ints? ps = some ns → vs = ns.map V.int
  | [], _, _, h, e => by cases h; cases e; rfl
  | p :: ps, _, ns, h, e => by
    cases h with
    | cons h1 h2 =>
      cases p with
      | int i =>
        unfold ints? at e
        cases e1 : ints? ps with
        | none => rw [e1] at e; cases e
        | some ms =>
          rw [e1] at e
          cases e
          cases h1
          rw [RepL.ints h2 e1]
          rfl
      | _ => cases e
theorem RepL.strs {S : Hp} : ∀ {ps : List PV} {vs : List V} {ns : List Str}, RepL K S ps vs → strs? ps = some ns → vs = ns.map V.str
  | [], _, _, h, e => by cases h; cases e; rfl
  | p :: ps, _, ns, h, e => by
    cases h with
    | cons h1 h2 =>
      cases p with
      | str i =>
        unfold strs? at e
        cases e1 : strs? ps with
        | none => rw [e1] at e; cases e
        | some ms =>
          rw [e1] at e
          cases e
          cases h1
          rw [RepL.strs h2 e1]
          rfl
      | _ => cases e
theorem RepL.atI {S : Hp} {ps : List PV} {vs : List V} {i : Int} {p : PV} (h : RepL K S ps vs) (e : L2.atI ps i = some p) : ∃ v, L2.atI vs i = some v ∧ Rep K S p v := by
  unfold L2.atI at e ⊢
  rw [← h.length]
  cases e1 : ixN ps.length i with
  | none => rw [e1] at e; cases e
  | some j =>
    rw [e1] at e
    exact h.get e
theorem RepL.cut {S : Hp} {ps : List PV} {vs : List V} {lo hi : Option Int} (h : RepL K S ps vs) : RepL K S (cutP ps lo hi) (cutV vs lo hi) := by
  unfold cutP cutV
  rw [h.length]
  exact (h.drop _).take _
theorem RepL.flat {S : Hp} {ps : List PV} {vs : List V} (h : RepL K S ps vs) : ∀ n, RepL K S (List.replicate n ps).flatten (List.replicate n vs).flatten
  | 0 => .nil
  | n + 1 => by
    rw [List.replicate_succ, List.replicate_succ, List.flatten_cons, List.flatten_cons]
    exact h.append (RepL.flat h n)
/-! ### .. and the rules by values -/
def rAddU (K : PySem.W.Frag) : R2 := fun x y H Q => (∃ i j, x = .int i ∧ y = .int j ∧ Q (.int (i + j)) H) ∨ (∃ i j, x = .str i ∧ y = .str j ∧ i.length + j.length ≤ sizeLine ∧ Q (.str (i ++ j)) H) ∨ rCat x y H Q ∨ rCatA K x y H Q
theorem op_addU {X : Cx} : OpR X (binaryOp .Add) (rAddU X.K) := OpR.or op_add (OpR.or op_add_str (OpR.or op_cat op_catA))
theorem v2_cat : V2F K rCat gCat := by
  intro S H x y p q z Q s rx ry e k
  unfold gCat at e
  split at e
  · rename_i xs ys
    split at e
    · rename_i hz
      cases e
      cases rx with
      | lst h1 h2 =>
        cases ry with
        | lst h3 h4 =>
          rw [h2.length, h4.length] at hz
          exact ⟨_, _, _, _, rfl, rfl, s _ _ h1, s _ _ h3, hz, fun a n => k a _ n (h2.append h4)⟩
    · cases e
  · cases e
theorem v2_add : V2 K (rAddU K) gAdd := by
  intro S H x y p q z Q s rx ry e k
  unfold gAdd at e
  split at e
  · cases rx; cases ry; cases e
    exact .inl ⟨_, _, rfl, rfl, k _ S H (Step.refl s) (.int _)⟩
  · split at e
    · rename_i hz
      cases rx; cases ry; cases e
      exact .inr (.inl ⟨_, _, rfl, rfl, hz, k _ S H (Step.refl s) (.str _)⟩)
    · cases e
  · exact .inr (.inr (.inl (v2_cat.v2 S H x y _ _ z Q s rx ry e k)))
  · split at e
    · rename_i xs ys hz
      cases e
      refine .inr (.inr (.inr ?_))
      cases rx with
      | tup h1 h2 =>
        cases ry with
        | tup h3 h4 =>
          rename_i a vs b us
          have hz' := hz
          rw [h2.length, h4.length] at hz'
          refine ⟨_, _, _, _, rfl, rfl, .inl (.inl (s _ _ h1)), .inl (.inl (s _ _ h3)), hz', fun e1 => ?_, fun _ e2 => ?_, fun _ _ c n => ?_⟩
          · subst e1
            cases h2
            exact k _ S H (Step.refl s) (.tup h3 h4)
          · subst e2
            cases h4
            rw [List.append_nil] at k
            exact k _ S H (Step.refl s) (.tup h1 h2)
          · refine k _ (upd S c (.tup (vs ++ us))) _ (Step.new1 s n) ?_
            exact .tup upd_same ((h2.append h4).up (same_upd (Same.free s n)))
    · cases e
  · cases e
theorem v2_sub : V2 K (rI0 fun i j => .int (i - j)) gSub := by
  intro S H x y p q z Q s rx ry e k
  unfold gSub at e
  split at e
  · cases rx; cases ry; cases e
    exact ⟨_, _, rfl, rfl, k _ S H (Step.refl s) (.int _)⟩
  · cases e
def rMulU : R2 := fun x y H Q => rI CMul (fun i j => .int (i * j)) x y H Q ∨ rRep x y H Q
theorem op_mulU {X : Cx} : OpR X (binaryOp .Mult) rMulU := OpR.or op_mul op_rep
theorem smallI_iff {i : Int} : smallI i = true ↔ -(2 ^ 64) < i ∧ i < 2 ^ 64 := by unfold smallI; simp
theorem v2_rep : V2F K rRep gRep := by
  intro S H x y p q z Q s rx ry e k
  unfold gRep at e
  split at e
  · rename_i xs n
    split at e
    · rename_i hz
      cases e
      simp only [Bool.and_eq_true, decide_eq_true_eq] at hz
      cases rx with
      | lst h1 h2 =>
        cases ry
        rw [h2.length] at hz
        exact ⟨_, _, _, rfl, rfl, s _ _ h1, hz.1.1, hz.1.2, hz.2, fun a n' => k a _ n' (h2.flat _)⟩
    · cases e
  · cases e
theorem v2_mul : V2 K rMulU gMul := by
  intro S H x y p q z Q s rx ry e k
  unfold gMul at e
  split at e
  · split at e
    · rename_i hz
      cases rx; cases ry; cases e
      refine .inl ⟨_, _, rfl, rfl, ?_, k _ S H (Step.refl s) (.int _)⟩
      rcases (Bool.or_eq_true _ _).mp hz with h | h
      · exact .inl (smallI_iff.mp h)
      · exact .inr (smallI_iff.mp h)
    · cases e
  · rename_i xs n
    exact .inr (v2_rep.v2 S H x y (.lst xs) (.int n) z Q s rx ry e k)
  · cases e
theorem v2_fdiv : V2 K (rI CDiv fun i j => .int (i / j)) gFdiv := by
  intro S H x y p q z Q s rx ry e k
  unfold gFdiv at e
  split at e
  · split at e
    · rename_i hz
      simp only [Bool.and_eq_true, decide_eq_true_eq] at hz
      cases rx; cases ry; cases e
      exact ⟨_, _, rfl, rfl, hz, k _ S H (Step.refl s) (.int _)⟩
    · cases e
  · cases e
theorem v2_mod : V2 K (rI (fun _ j => 0 < j) fun i j => .int (i % j)) gMod := by
  intro S H x y p q z Q s rx ry e k
  unfold gMod at e
  split at e
  · split at e
    · rename_i hz
      cases rx; cases ry; cases e
      exact ⟨_, _, rfl, rfl, of_decide_eq_true hz, k _ S H (Step.refl s) (.int _)⟩
    · cases e
  · cases e
theorem v2_pow : V2 K (rI CPow fun i j => .int (i ^ j.toNat)) gPow := by
  intro S H x y p q z Q s rx ry e k
  unfold gPow at e
  split at e
  · split at e
    · rename_i hz
      simp only [Bool.and_eq_true, decide_eq_true_eq] at hz
      cases rx; cases ry; cases e
      exact ⟨_, _, rfl, rfl, ⟨hz.1.1, hz.1.2, hz.2⟩, k _ S H (Step.refl s) (.int _)⟩
    · cases e
  · cases e
theorem v1_neg : V1 K (rU fun i => .int (-i)) gNeg := by
  intro S H x p z Q s rx e k
  unfold gNeg at e
  split at e
  · cases rx; cases e
    exact ⟨_, rfl, k _ S H (Step.refl s) (.int _)⟩
  · cases e
theorem v2_cmp {f : Int → Int → Bool} : V2 K (rI0 fun i j => .bl (f i j)) (gCmpI f) := by
  intro S H x y p q z Q s rx ry e k
  unfold gCmpI at e
  split at e
  · cases rx; cases ry; cases e
    exact ⟨_, _, rfl, rfl, k _ S H (Step.refl s) (.bl _)⟩
  · cases e
theorem v2_eq : V2 K (rEqD K) gEq := by
  intro S H x y p q z Q s rx ry e k
  unfold gEq at e
  split at e
  · rename_i hz
    cases e
    obtain ⟨h1, h2⟩ := (Bool.and_eq_true _ _).mp hz
    exact ⟨_, _, rx.dp s _ _ (SeqAt.canLay_of_shaped h1), ry.dp s _ _ (SeqAt.canLay_of_shaped h2), h1, h2, k _ S H (Step.refl s) (.bl _)⟩
  · cases e
theorem v2_ne : V2 K (rNeD K) gNe := by
  intro S H x y p q z Q s rx ry e k
  unfold gNe at e
  split at e
  · rename_i hz
    cases e
    obtain ⟨h1, h2⟩ := (Bool.and_eq_true _ _).mp hz
    exact ⟨_, _, rx.dp s _ _ (SeqAt.canLay_of_shaped h1), ry.dp s _ _ (SeqAt.canLay_of_shaped h2), h1, h2, k _ S H (Step.refl s) (.bl _)⟩
  · cases e
theorem rep_non {S : Hp} {p : PV} {x : V} (r : Rep K S p x) : decide (x = .non) = (match p with | .non => true | _ => false) := by
  cases r <;> simp
theorem v2_isN : V2 K (fun x y H Q => y = .non ∧ Q (.bl (decide (x = .non))) H) (gIsN false) := by
  intro S H x y p q z Q s rx ry e k
  have hr := rep_non rx
  cases q with
  | non =>
    cases ry
    refine ⟨rfl, ?_⟩
    rw [hr]
    cases p <;> simp [gIsN] at e <;> subst e <;> exact k _ S H (Step.refl s) (.bl _)
  | _ => cases p <;> simp [gIsN] at e
theorem v2_notN : V2 K (fun x y H Q => y = .non ∧ Q (.bl (!decide (x = .non))) H) (gIsN true) := by
  intro S H x y p q z Q s rx ry e k
  have hr := rep_non rx
  cases q with
  | non =>
    cases ry
    refine ⟨rfl, ?_⟩
    rw [hr]
    cases p <;> simp [gIsN] at e <;> subst e <;> exact k _ S H (Step.refl s) (.bl _)
  | _ => cases p <;> simp [gIsN] at e
theorem sgn1_eq {x : Str} {c : Nat} (h : sgn1 x = some c) : x = ⟨#[c]⟩ := by
  unfold sgn1 at h
  split at h
  · rename_i d e
    cases h
    exact Str.ext' (by rw [← Array.toArray_toList (xs := x.cps), e])
  · cases h
theorem any_toDs (p : PV) : ∀ ps : List PV, (toDs ps).any (fun z => PyData.eqv z p.toD) = ps.any fun y => pvEq y p
  | [] => rfl
  | q :: ps => by
    show (PyData.eqv q.toD p.toD || (toDs ps).any fun z => PyData.eqv z p.toD) = _
    rw [any_toDs p ps]
    rfl
def rInU (K : PySem.W.Frag) : R2 := fun x y H Q => (∃ (c : Nat) (z : Str), x = .str ⟨#[c]⟩ ∧ y = .str z ∧ Q (.bl (decide (c ∈ z.cps.toList))) H) ∨ rInD K x y H Q
def rNotInU (K : PySem.W.Frag) : R2 := fun x y H Q => (∃ (c : Nat) (z : Str), x = .str ⟨#[c]⟩ ∧ y = .str z ∧ Q (.bl (!decide (c ∈ z.cps.toList))) H) ∨ rNotInD K x y H Q
theorem v2_in : V2 K (rInU K) (gIn false) := by
  intro S H x y p q z Q s rx ry e k
  unfold gIn at e
  split at e
  · rename_i a b
    cases hs : sgn1 a with
    | none => rw [hs] at e; cases e
    | some c =>
      rw [hs] at e
      cases e
      cases rx; cases ry
      rw [sgn1_eq hs]
      exact .inl ⟨c, _, rfl, rfl, k _ S H (Step.refl s) (.bl _)⟩
  · rename_i ps _
    split at e
    · rename_i hz
      cases e
      obtain ⟨h1, h2⟩ := (Bool.and_eq_true _ _).mp hz
      refine .inr ⟨_, _, rx.dp s _ _ (SeqAt.canLay_of_shaped h1), ry.dp s _ _ (SeqAt.canLay_of_shaped h2), h1, h2, ?_⟩
      rw [any_toDs]
      exact k _ S H (Step.refl s) (.bl _)
    · cases e
  · cases e
theorem v2_notIn : V2 K (rNotInU K) (gIn true) := by
  intro S H x y p q z Q s rx ry e k
  unfold gIn at e
  split at e
  · rename_i a b
    cases hs : sgn1 a with
    | none => rw [hs] at e; cases e
    | some c =>
      rw [hs] at e
      cases e
      cases rx; cases ry
      rw [sgn1_eq hs]
      exact .inl ⟨c, _, rfl, rfl, k _ S H (Step.refl s) (.bl _)⟩
  · rename_i ps _
    split at e
    · rename_i hz
      cases e
      obtain ⟨h1, h2⟩ := (Bool.and_eq_true _ _).mp hz
      refine .inr ⟨_, _, rx.dp s _ _ (SeqAt.canLay_of_shaped h1), ry.dp s _ _ (SeqAt.canLay_of_shaped h2), h1, h2, ?_⟩
      rw [any_toDs]
      exact k _ S H (Step.refl s) (.bl _)
    · cases e
  · cases e
theorem v2_ix : V2 K (rIx K) gIx := by
  intro S H x y p q z Q s rx ry e k
  unfold gIx at e
  split at e
  · cases ry
    cases rx with
    | lst h1 h2 =>
      obtain ⟨v, h3, h4⟩ := h2.atI e
      exact .inl ⟨_, _, _, _, rfl, rfl, .inl (.inl (s _ _ h1)), h3, k _ S H (Step.refl s) h4⟩
  · cases ry
    cases rx with
    | tup h1 h2 =>
      obtain ⟨v, h3, h4⟩ := h2.atI e
      exact .inr (.inl ⟨_, _, _, _, rfl, rfl, .inl (.inl (s _ _ h1)), h3, k _ S H (Step.refl s) h4⟩)
  · cases ry
    cases rx with
    | ktup h1 h2 =>
      obtain ⟨v, h3, h4⟩ := h2.atI e
      exact .inr (.inl ⟨_, _, _, _, rfl, rfl, Same.tupK s h1, h3, k _ S H (Step.refl s) h4⟩)
  · cases ry
    cases rx with
    | klst h1 h2 =>
      obtain ⟨v, h3, h4⟩ := h2.atI e
      exact .inl ⟨_, _, _, _, rfl, rfl, Same.lstK s h1, h3, k _ S H (Step.refl s) h4⟩
  · cases ry; cases rx
    split at e
    · rename_i z' i hz
      cases h : L2.atI z'.cps.toList i with
      | none => rw [h] at e; cases e
      | some c =>
        rw [h] at e
        cases e
        exact .inr (.inr ⟨_, _, _, rfl, rfl, hz, h, k _ S H (Step.refl s) (.str _)⟩)
    · cases e
  · cases e
theorem vt_truth : VT K (fun x H Q => ∃ k, TruV K x H k ∧ Q k H) truth := by
  intro S H x p z Q s rx e k
  cases p with
  | non => cases rx; cases e; exact ⟨_, rfl, k⟩
  | bl b => cases rx; cases e; exact ⟨_, rfl, k⟩
  | int i => cases rx; cases e; exact ⟨_, rfl, k⟩
  | str y =>
    cases rx
    have e : (if y.length ≤ sizeLine then some ((y.length : Int) != 0) else none) = some z := e
    split at e
    · rename_i hz
      cases e
      exact ⟨_, ⟨hz, rfl⟩, k⟩
    · cases e
  | lst ps =>
    cases rx with
    | lst h1 h2 =>
      cases e
      refine ⟨_, .inl ⟨_, .inl (.inl (s _ _ h1)), ?_⟩, k⟩
      cases h2 <;> rfl
  | tup ps =>
    cases rx with
    | tup h1 h2 =>
      cases e
      refine ⟨_, .inr (.inl ⟨_, .inl (.inl (s _ _ h1)), ?_⟩), k⟩
      cases h2 <;> rfl
  | ktup ps =>
    cases rx with
    | ktup h1 h2 =>
      cases e
      refine ⟨_, .inr (.inl ⟨_, Same.tupK s h1, ?_⟩), k⟩
      cases h2 <;> rfl
  | klst ps =>
    cases rx with
    | klst h1 h2 =>
      cases e
      refine ⟨_, .inl ⟨_, Same.lstK s h1, ?_⟩, k⟩
      cases h2 <;> rfl
  | dic t ks ps => cases e
  | fn a => cases e
  | obj a b c => cases e
/-! ### slices -/
def VS (K : PySem.W.Frag) (r : V → Option Int → Option Int → Hp → VK → Prop) (g : PV → Option Int → Option Int → Option PV) : Prop :=
  ∀ (S H : Hp) (x : V) (p z : PV) (lo hi : Option Int) (Q : VK), Same S H → Rep K S p x → g p lo hi = some z → (∀ v S' H', Step S H S' H' → Rep K S' z v → Q v H') → r x lo hi H Q
def VSF (K : PySem.W.Frag) (r : V → Option Int → Option Int → Hp → VK → Prop) (g : PV → Option Int → Option Int → Option PV) : Prop :=
  ∀ (S H : Hp) (x : V) (p z : PV) (lo hi : Option Int) (Q : VK), Same S H → Rep K S p x → g p lo hi = some z → (∀ a o, H a = none → OwnO K S z o → Q (.ref a) (upd H a o)) → r x lo hi H Q
def gSl : PV → Option Int → Option Int → Option PV
  | .lst ps, lo, hi => some (.lst (cutP ps lo hi))
  | .tup ps, lo, hi => some (.tup (cutP ps lo hi))
  | .str z, lo, hi => if z.length ≤ sizeLine then some (.str (cutS z lo hi)) else none
  | _, _, _ => none
def gSlL : PV → Option Int → Option Int → Option PV
  | .lst ps, lo, hi => some (.lst (cutP ps lo hi))
  | _, _, _ => none
theorem vsf_list : VSF K (rSlL K) gSlL := by
  intro S H x p z lo hi Q s rx e k
  unfold gSlL at e
  split at e
  · cases e
    cases rx with
    | lst h1 h2 => exact ⟨_, _, rfl, .inl (.inl (s _ _ h1)), fun a n => k a _ n h2.cut⟩
  · cases e
def rSlU (K : PySem.W.Frag) : V → Option Int → Option Int → Hp → VK → Prop := fun x lo hi H Q => rSlL K x lo hi H Q ∨ rSlA K x lo hi H Q ∨ rSlS x lo hi H Q
theorem sl_U {X : Cx} : SlR X (rSlU X.K) := sl_list.or (sl_tupA.or sl_str)
theorem cut_all {α : Type} (xs : List α) (lo hi : Option Int) (h : HT.sIx xs.length 0 lo = 0 ∧ HT.sIx xs.length xs.length hi = xs.length) : cutP xs lo hi = xs := by
  unfold cutP
  rw [h.1, h.2]
  simp
theorem vs_U : VS K (rSlU K) gSl := by
  intro S H x p z lo hi Q s rx e k
  unfold gSl at e
  split at e
  · cases e
    cases rx with
    | lst h1 h2 => exact .inl ⟨_, _, rfl, .inl (.inl (s _ _ h1)), fun a n => k _ _ _ (own_new (z := .lst _) (o := .lst _) s n h2.cut).1 (own_new (z := .lst _) (o := .lst _) s n h2.cut).2⟩
  · cases e
    cases rx with
    | tup h1 h2 =>
      rename_i ps a vs
      refine .inr (.inl ⟨_, _, rfl, .inl (.inl (s _ _ h1)), fun hw => ?_, fun hw c n => ?_⟩)
      · rw [← h2.length] at hw
        rw [cut_all ps _ _ hw] at k
        exact k _ S H (Step.refl s) (.tup h1 h2)
      · refine k _ (upd S c (.tup (cutV vs lo hi))) _ (Step.new1 s n) ?_
        exact .tup upd_same (h2.cut.up (same_upd (Same.free s n)))
  · split at e
    · rename_i hz
      cases e
      cases rx
      exact .inr (.inr ⟨_, rfl, hz, k _ S H (Step.refl s) (.str _)⟩)
    · cases e
  · cases e
end
/-! a slice's parts -/
abbrev DenO := Env → Rs (Option Int)
def rO : RelT (Option Int) (Option Int) := fun _ _ _ _ _ a b => b = a
abbrev OOk (K : PySem.W.Frag) (mg : Str → Option Value) (W : WX) (t : TO) (d : DenO) : Prop := XOk K mg W rO t d
def oNone : DenO := fun ρ => .ok none ρ
def PV.int? : PV → Option Int
  | .int i => some i
  | _ => none
def oSome (da : Den) : DenO := fun ρ => (da ρ).bind fun p ρ1 => opt (p.int?.map some) ρ1
def dSl (g : PV → Option Int → Option Int → Option PV) (da : Den) (dl dh : DenO) : Den := fun ρ => (da ρ).bind fun p ρ1 => (dl ρ1).bind fun l ρ2 => (dh ρ2).bind fun h ρ3 => opt (g p l h) ρ3
/-- a slice of a slot that is only looked at: lists and texts -/
def dSlv (g : PV → Option Int → Option Int → Option PV) (i : Nat) (dl dh : DenO) : Den := fun ρ => match slot ρ i with
  | none => .bad
  | some _ => (dl ρ).bind fun l ρ2 => (dh ρ2).bind fun h ρ3 => match slot ρ3 i with
    | none => .bad
    | some p => opt (g p l h) ρ3
section
variable {K : PySem.W.Frag} {mg : Str → Option Value} {W : WX}
theorem oo_none : OOk K mg W tNoPart oNone := fun H₀ S₀ M S σ H ρ Q ab hp => hp none S H ab rfl
theorem oo_some {te : TE} {da : Den} (ha : EOk K mg W te da) : OOk K mg W (tPart te) (oSome da) := fun H₀ S₀ M S σ H ρ Q ab hp =>
  ha.bind (Rl' := rO) ab hp fun p ρ1 v S1 H1 _ a1 _ r1 hp => by
    cases p with
    | int i =>
      cases r1
      exact ⟨i, rfl, hp (some i) S1 H1 a1 rfl⟩
    | _ => exact hp.elim
theorem eo_sl {te : TE} {da : Den} {tl th : TO} {dl dh : DenO} {r : V → Option Int → Option Int → Hp → VK → Prop} {g : PV → Option Int → Option Int → Option PV} (ha : EOk K mg W te da) (hl : OOk K mg W tl dl) (hh : OOk K mg W th dh) (hr : VS K r g) : EOk K mg W (tSl r te tl th) (dSl g da dl dh) := fun H₀ S₀ M S σ H ρ Q ab hp =>
  ha.bind (Rl' := rV K) ab hp fun p ρ1 v S1 H1 _ a1 _ r1 hp => hl.bind (Rl' := rV K) a1 hp fun l ρ2 l' S2 H2 _ a2 s2 r2 hp => hh.bind (Rl' := rV K) a2 hp fun h ρ3 h' S3 H3 _ a3 s3 r3 hp => by
    cases r2; cases r3
    cases e : g p l h with
    | none => rw [e] at hp; exact hp.elim
    | some z =>
      rw [e] at hp
      exact hr S3 H3 v p z l h Q a3.sub (r1.up (s2.trans s3)) e fun v' S4 H4 st rz => hp v' S4 H4 (a3.step st) rz
theorem fo_sl {te : TE} {da : Den} {tl th : TO} {dl dh : DenO} {r : V → Option Int → Option Int → Hp → VK → Prop} {g : PV → Option Int → Option Int → Option PV} (ha : EOk K mg W te da) (hl : OOk K mg W tl dl) (hh : OOk K mg W th dh) (hr : VSF K r g) : FOk K mg W (tSl r te tl th) (dSl g da dl dh) := fun H₀ S₀ M S σ H ρ Q ab hp =>
  ha.bind (Rl' := rF K) ab hp fun p ρ1 v S1 H1 _ a1 _ r1 hp => hl.bind (Rl' := rF K) a1 hp fun l ρ2 l' S2 H2 _ a2 s2 r2 hp => hh.bind (Rl' := rF K) a2 hp fun h ρ3 h' S3 H3 _ a3 s3 r3 hp => by
    cases r2; cases r3
    cases e : g p l h with
    | none => rw [e] at hp; exact hp.elim
    | some z =>
      rw [e] at hp
      exact hr S3 H3 v p z l h Q a3.sub (r1.up (s2.trans s3)) e fun a o n w => hp _ S3 _ (a3.fresh n w).1 (a3.fresh n w).2
/-- the items of an owned list are shared -/
theorem own_lst {S : Hp} {ps : List PV} {o : HO} (w : OwnO K S (.lst ps) o) : ∃ vs, o = .lst vs ∧ RepL K S ps vs := by
  cases o with
  | lst vs => exact ⟨vs, rfl, w⟩
  | _ => exact w.elim
/-- what a slot holds, as a list (or a shared value) -/
theorem Abs.lookL {H₀ S₀ : Hp} {M : Addr → Prop} {S H : Hp} {σ : St} {ρ : Env} {i : Nat} {p : PV} (a : Abs K H₀ S₀ M S σ H ρ) (e : slot ρ i = some p) :
    ∃ v, σ[i]? = some (some v) ∧ (Rep K S p v ∨ ∃ b o, v = .ref b ∧ S b = none ∧ H b = some o ∧ OwnO K S p o) := by
  unfold slot at e
  cases e1 : ρ[i]? with
  | none => rw [e1] at e; cases e
  | some s =>
    rw [e1] at e
    cases s with
    | un => cases e
    | sh q =>
      cases e
      obtain ⟨v, h1, h2⟩ := a.sh i _ e1
      exact ⟨v, h1, .inl h2⟩
    | ow q =>
      cases e
      obtain ⟨b, o, h1, h2, h3, h4, h5, h6⟩ := a.own i _ _ e1 rfl
      exact ⟨_, h1, .inr ⟨b, o, rfl, h4, h5, h6⟩⟩
    | io q =>
      cases e
      obtain ⟨b, o, h1, h2, h3, h4, h5, h6⟩ := a.own i _ _ e1 rfl
      exact ⟨_, h1, .inr ⟨b, o, rfl, h4, h5, h6⟩⟩
/-- an item of a slot that is only looked at -/
theorem eo_ixv {i : Nat} {tb : TE} {db : Den} (hb : EOk K mg W tb db) : EOk K mg W (tOp (rIx K) (tVar i) tb) (d2l gIx i db) := by
  intro H₀ S₀ M S σ H ρ Q ab hp
  unfold d2l at hp
  cases e0 : slot ρ i with
  | none => rw [e0] at hp; exact hp.elim
  | some p0 =>
    rw [e0] at hp
    obtain ⟨v, _, hv, _⟩ := ab.look e0
    refine ⟨v, hv, ?_⟩
    refine hb.bind (Rl' := rV K) ab hp fun q ρ1 u S1 H1 _ a1 _ r1 hp => ?_
    cases e1 : slot ρ1 i with
    | none => rw [e1] at hp; exact hp.elim
    | some p =>
      rw [e1] at hp
      obtain ⟨v', hv', h⟩ := a1.lookL e1
      rw [hv] at hv'
      cases hv'
      cases e : gIx p q with
      | none => simp only [e] at hp; exact hp.elim
      | some z =>
        simp only [e] at hp
        rcases h with h | ⟨b, o, rfl, h2, h3, h4⟩
        · exact v2_ix S1 H1 v u p q z Q a1.sub h r1 e fun v' S3 H3 st rz => hp v' S3 H3 (a1.step st) rz
        · cases p with
          | lst ps =>
            obtain ⟨vs, rfl, h5⟩ := own_lst h4
            cases q with
            | int k =>
              cases r1
              obtain ⟨w, h6, h7⟩ := h5.atI (show L2.atI ps k = some z from e)
              exact .inl ⟨_, _, _, _, rfl, rfl, .inl (.inl h3), h6, hp _ S1 H1 a1 h7⟩
            | _ => cases e
          | dic t ks ps => cases e
          | obj c ks ps => cases e
          | _ => exact h4.elim
/-- a new list cut out of a slot that is only looked at -/
theorem fo_slv {i : Nat} {tl th : TO} {dl dh : DenO} (hl : OOk K mg W tl dl) (hh : OOk K mg W th dh) : FOk K mg W (tSl (rSlL K) (tVar i) tl th) (dSlv gSlL i dl dh) := by
  intro H₀ S₀ M S σ H ρ Q ab hp
  unfold dSlv at hp
  cases e0 : slot ρ i with
  | none => rw [e0] at hp; exact hp.elim
  | some p0 =>
    rw [e0] at hp
    obtain ⟨v, _, hv, _⟩ := ab.look e0
    refine ⟨v, hv, ?_⟩
    refine hl.bind (Rl' := rF K) ab hp fun l ρ2 l' S2 H2 _ a2 s2 r2 hp => hh.bind (Rl' := rF K) a2 hp fun h ρ3 h' S3 H3 _ a3 s3 r3 hp => ?_
    cases r2; cases r3
    cases e1 : slot ρ3 i with
    | none => rw [e1] at hp; exact hp.elim
    | some p =>
      rw [e1] at hp
      obtain ⟨v', hv', hL⟩ := a3.lookL e1
      rw [hv] at hv'
      cases hv'
      cases p with
      | lst ps =>
        have hp : Post K mg W (rF K) H₀ S₀ M σ (.ok (.lst (cutP ps l h)) ρ3) Q := hp
        rcases hL with hL | ⟨b, o, rfl, h2, h3, h4⟩
        · cases hL with
          | lst h1 h2 => exact ⟨_, _, rfl, .inl (.inl (a3.sub _ _ h1)), fun c n => hp _ S3 _ (a3.fresh n (p := .lst _) (o := .lst _) h2.cut).1 (a3.fresh n (p := .lst _) (o := .lst _) h2.cut).2⟩
        · obtain ⟨vs, rfl, h5⟩ := own_lst h4
          exact ⟨_, _, rfl, .inl (.inl h3), fun c n => hp _ S3 _ (a3.fresh n (p := .lst _) (o := .lst _) h5.cut).1 (a3.fresh n (p := .lst _) (o := .lst _) h5.cut).2⟩
      | _ => exact hp.elim
end
/-! ### built-in functions -/
section
variable {K : PySem.W.Frag}
def gLenN : List PV → Option PV
  | [p] => gLen p
  | _ => none
theorem vn_len : VN K (fun xs H Q => ∃ x n, xs = [x] ∧ LenV K x H n ∧ Q (.int n) H) gLenN := by
  intro S H xs ps z Q s rx e k
  unfold gLenN at e
  split at e
  · rename_i p
    cases rx with
    | cons r1 r2 =>
      cases r2
      unfold gLen at e
      split at e
      · cases r1 with
        | lst h1 h2 =>
          cases e
          refine ⟨_, _, rfl, .inl ⟨_, .inl (.inl (s _ _ h1)), rfl⟩, ?_⟩
          rw [← h2.length]
          exact k _ S H (Step.refl s) (.int _)
      · cases r1 with
        | tup h1 h2 =>
          cases e
          refine ⟨_, _, rfl, .inr ⟨_, .inl (.inl (s _ _ h1)), rfl⟩, ?_⟩
          rw [← h2.length]
          exact k _ S H (Step.refl s) (.int _)
      · cases r1 with
        | ktup h1 h2 =>
          cases e
          refine ⟨_, _, rfl, .inr ⟨_, Same.tupK s h1, rfl⟩, ?_⟩
          rw [← h2.length]
          exact k _ S H (Step.refl s) (.int _)
      · cases r1 with
        | klst h1 h2 =>
          cases e
          refine ⟨_, _, rfl, .inl ⟨_, Same.lstK s h1, rfl⟩, ?_⟩
          rw [← h2.length]
          exact k _ S H (Step.refl s) (.int _)
      · split at e
        · rename_i hz
          cases e
          cases r1
          exact ⟨_, _, rfl, ⟨hz, rfl⟩, k _ S H (Step.refl s) (.int _)⟩
        · cases e
      · cases e
  · cases e
theorem len_sc : ∀ p z, gLenN [p] = some z → z.sc = true := by
  intro p z e
  cases p with
  | lst ps => cases e; rfl
  | tup ps => cases e; rfl
  | ktup ps => cases e; rfl
  | klst ps => cases e; rfl
  | str x =>
    have e : (if x.length ≤ sizeLine then some (PV.int x.length) else none) = some z := e
    split at e
    · cases e; rfl
    · cases e
  | _ => cases e
def gAbs : List PV → Option PV
  | [.int i] => some (.int (if i < 0 then -i else i))
  | _ => none
theorem vn_abs : VN K (fun xs H Q => ∃ i, xs = [.int i] ∧ Q (.int (if i < 0 then -i else i)) H) gAbs := by
  intro S H xs ps z Q s rx e k
  unfold gAbs at e
  split at e
  · cases rx with
    | cons r1 r2 =>
      cases r2; cases r1; cases e
      exact ⟨_, rfl, k _ S H (Step.refl s) (.int _)⟩
  · cases e
def gMax2 : List PV → Option PV
  | [.int i, .int j] => some (.int (if j > i then j else i))
  | _ => none
def gMin2 : List PV → Option PV
  | [.int i, .int j] => some (.int (if j < i then j else i))
  | _ => none
theorem vn_max2 : VN K (fun xs H Q => ∃ i j, xs = [.int i, .int j] ∧ Q (.int (if j > i then j else i)) H) gMax2 := by
  intro S H xs ps z Q s rx e k
  unfold gMax2 at e
  split at e
  · cases rx with
    | cons r1 r2 =>
      cases r2 with
      | cons r3 r4 =>
        cases r4; cases r1; cases r3; cases e
        exact ⟨_, _, rfl, k _ S H (Step.refl s) (.int _)⟩
  · cases e
theorem vn_min2 : VN K (fun xs H Q => ∃ i j, xs = [.int i, .int j] ∧ Q (.int (if j < i then j else i)) H) gMin2 := by
  intro S H xs ps z Q s rx e k
  unfold gMin2 at e
  split at e
  · cases rx with
    | cons r1 r2 =>
      cases r2 with
      | cons r3 r4 =>
        cases r4; cases r1; cases r3; cases e
        exact ⟨_, _, rfl, k _ S H (Step.refl s) (.int _)⟩
  · cases e
def gInt : List PV → Option PV
  | [.int i] => some (.int i)
  | [.bl b] => some (.int (if b then 1 else 0))
  | [.str a] => if a.length ≤ 640 then (PySem.intText? a).map .int else none
  | _ => none
def rIntU : List V → Hp → VK → Prop := fun xs H Q => ((∃ i, xs = [.int i] ∧ Q (.int i) H) ∨ ∃ k, xs = [.bl k] ∧ Q (.int (if k then 1 else 0)) H) ∨ ∃ a n, xs = [.str a] ∧ PySem.intText? a = some n ∧ a.length ≤ 640 ∧ Q (.int n) H
theorem CallR.or {X : Cx} {f : Value} {r r' : List V → Hp → VK → Prop} (h : CallR X f r) (h' : CallR X f r') : CallR X f (fun xs H Q => r xs H Q ∨ r' xs H Q) := by
  intro pins s σ H vs us Q I r q
  rcases q with q | q
  · exact h pins s σ H vs us Q I r q
  · exact h' pins s σ H vs us Q I r q
theorem call_intU {X : Cx} : CallR X (.type "int") rIntU := CallR.or call_int1 call_int_str
theorem vn_int : VN K rIntU gInt := by
  intro S H xs ps z Q s rx e k
  unfold gInt at e
  split at e
  · cases rx with
    | cons r1 r2 =>
      cases r2; cases r1; cases e
      exact .inl (.inl ⟨_, rfl, k _ S H (Step.refl s) (.int _)⟩)
  · cases rx with
    | cons r1 r2 =>
      cases r2; cases r1; cases e
      exact .inl (.inr ⟨_, rfl, k _ S H (Step.refl s) (.int _)⟩)
  · cases rx with
    | cons r1 r2 =>
      cases r2; cases r1
      rename_i a
      split at e
      · rename_i hz
        cases h : PySem.intText? a with
        | none => rw [h] at e; cases e
        | some n =>
          rw [h] at e
          cases e
          exact .inr ⟨_, _, rfl, h, hz, k _ S H (Step.refl s) (.int _)⟩
      · cases e
  · cases e
def gSumN : List PV → Option PV
  | [.lst ps] => (ints? ps).map fun ns => .int ns.sum
  | _ => none
theorem vn_sum : VN K (rSum K) gSumN := by
  intro S H xs ps z Q s rx e k
  unfold gSumN at e
  split at e
  · rename_i ps
    cases rx with
    | cons r1 r2 =>
      cases r2
      cases r1 with
      | lst h1 h2 =>
        cases h : ints? ps with
        | none => rw [h] at e; cases e
        | some ns =>
          rw [h] at e
          cases e
          rw [h2.ints h] at h1
          exact ⟨_, _, rfl, .inl (.inl (s _ _ h1)), k _ S H (Step.refl s) (.int _)⟩
  · cases e
/-! ### what changes a list -/
def gAppend : PV → List PV → Option (PV × PV)
  | .lst ps, [p] => if ps.length < sizeLine then some (.lst (ps ++ [p]), .non) else none
  | _, _ => none
theorem mu_append : MutOk K rAppend gAppend := by
  intro S H b o p q z ps vs Q s sb hb w r e k
  unfold gAppend at e
  split at e
  · rename_i xs p1
    split at e
    · rename_i hz
      cases e
      obtain ⟨us, rfl, h5⟩ := own_lst w
      cases r with
      | cons r1 r2 =>
        cases r2
        exact ⟨_, _, _, rfl, rfl, hb, by rw [← h5.length]; exact hz, k _ _ (h5.append (.cons r1 .nil)) .non⟩
    · cases e
  · cases e
def gPop : PV → List PV → Option (PV × PV)
  | .lst ps, [] => (ps[ps.length - 1]?).map fun p => (.lst ps.dropLast, p)
  | _, _ => none
theorem mu_pop : MutOk K rPop gPop := by
  intro S H b o p q z ps vs Q s sb hb w r e k
  unfold gPop at e
  split at e
  · rename_i xs
    cases h : xs[xs.length - 1]? with
    | none => rw [h] at e; cases e
    | some p1 =>
      rw [h] at e
      cases e
      obtain ⟨us, rfl, h5⟩ := own_lst w
      cases r
      obtain ⟨v, h6, h7⟩ := h5.get h
      rw [h5.length] at h6
      exact ⟨_, _, _, rfl, rfl, hb, h6, k _ _ h5.dropLast h7⟩
  · cases e
def gPopAt : PV → List PV → Option (PV × PV)
  | .lst ps, [.int i] => if decide (-(2 ^ 63) ≤ i) && decide (i < 2 ^ 63) then (seqIndex? i ps.length).bind fun j => (ps[j]?).map fun p => (.lst (ps.eraseIdx j), p) else none
  | _, _ => none
theorem mu_popAt : MutOk K rPopAt gPopAt := by
  intro S H b o p q z ps vs Q s sb hb w r e k
  unfold gPopAt at e
  split at e
  · rename_i xs i
    split at e
    · rename_i hz
      simp only [Bool.and_eq_true, decide_eq_true_eq] at hz
      cases hj : seqIndex? i xs.length with
      | none => rw [hj] at e; cases e
      | some j =>
        rw [hj] at e
        have e : (xs[j]?).map (fun p => (PV.lst (xs.eraseIdx j), p)) = some (q, z) := e
        cases h : xs[j]? with
        | none => rw [h] at e; cases e
        | some p1 =>
          rw [h] at e
          cases e
          obtain ⟨us, rfl, h5⟩ := own_lst w
          cases r with
          | cons r1 r2 =>
            cases r2; cases r1
            obtain ⟨v, h6, h7⟩ := h5.get h
            rw [h5.length] at hj
            exact ⟨_, _, _, _, _, rfl, rfl, hb, hz.1, hz.2, hj, h6, k _ _ (h5.eraseIdx j) h7⟩
    · cases e
  · cases e
def gReverse : PV → List PV → Option (PV × PV)
  | .lst ps, [] => some (.lst ps.reverse, .non)
  | _, _ => none
theorem mu_reverse : MutOk K rReverse gReverse := by
  intro S H b o p q z ps vs Q s sb hb w r e k
  unfold gReverse at e
  split at e
  · cases e
    obtain ⟨us, rfl, h5⟩ := own_lst w
    cases r
    exact ⟨_, _, rfl, rfl, hb, k _ _ h5.reverse .non⟩
  · cases e
def gExtend : PV → List PV → Option (PV × PV)
  | .lst ps, [.lst qs] => if ps.length + qs.length ≤ sizeLine then some (.lst (ps ++ qs), .non) else none
  | _, _ => none
theorem mu_extend : MutOk K rExtend gExtend := by
  intro S H b o p q z ps vs Q s sb hb w r e k
  unfold gExtend at e
  split at e
  · split at e
    · rename_i hz
      cases e
      obtain ⟨us, rfl, h5⟩ := own_lst w
      cases r with
      | cons r1 r2 =>
        cases r2
        cases r1 with
        | lst h1 h2 =>
          refine ⟨_, _, _, _, rfl, rfl, hb, s _ _ h1, ?_, k _ _ (h5.append h2) .non⟩
          rw [← h5.length, ← h2.length]
          exact hz
    · cases e
  · cases e
def gSetL : PV → PV → PV → Option PV
  | .lst ps, .int i, e => (ixN ps.length i).map fun j => .lst (ps.set j e)
  | _, _, _ => none
theorem st_list : SetOk K rSetL gSetL := by
  intro S H b o p i e q x y Q s sb hb w rx ry e1 k
  cases p with
  | lst ps =>
    cases i with
    | int n =>
      have e1 : (ixN ps.length n).map (fun j => PV.lst (ps.set j e)) = some q := e1
      cases hj : ixN ps.length n with
      | none => rw [hj] at e1; cases e1
      | some j =>
        rw [hj] at e1
        cases e1
        obtain ⟨us, rfl, h5⟩ := own_lst w
        cases rx
        rw [h5.length] at hj
        exact ⟨_, _, _, _, rfl, rfl, hb, hj, k _ (h5.set ry j)⟩
    | _ => cases e1
  | _ => cases i <;> cases e1
end
end PL

set_option Elab.async false
set_option linter.all false
set_option maxRecDepth 100000
set_option maxHeartbeats 4000000
namespace PL
open PySem PySem.Spec L2
set_option autoImplicit false

/-! ### pieces of syntax and what they are worth -/
def canon {α β : Type} (K : PySem.W.Frag) (mg : Str → Option Value) (W : WX) (Rl : RelT α β) (d : Env → Rs α) : St → Hp → (β → Hp → Prop) → Prop := fun σ H Q =>
  ∃ H₀ S₀ M S ρ, Abs K H₀ S₀ M S σ H ρ ∧ Post K mg W Rl H₀ S₀ M σ (d ρ) Q
theorem canon_ok {α β : Type} {K : PySem.W.Frag} {mg : Str → Option Value} {W : WX} {Rl : RelT α β} {d : Env → Rs α} : XOk K mg W Rl (canon K mg W Rl d) d := fun H₀ S₀ M S σ H ρ Q ab hp => ⟨H₀, S₀, M, S, ρ, ab, hp⟩
theorem canon_to {α β : Type} {K : PySem.W.Frag} {mg : Str → Option Value} {W : WX} {Rl : RelT α β} {d : Env → Rs α} {t : St → Hp → (β → Hp → Prop) → Prop} (h : XOk K mg W Rl t d) {σ : St} {H : Hp} {Q : β → Hp → Prop} (q : canon K mg W Rl d σ H Q) : t σ H Q := by
  obtain ⟨H₀, S₀, M, S, ρ, ab, hp⟩ := q
  exact h H₀ S₀ M S σ H ρ Q ab hp
def canonS (K : PySem.W.Frag) (mg : Str → Option Value) (W : WX) (fr : Bool) (d : DenS) : TS := fun D σ H => ∃ H₀ S₀ M S ρ, Abs K H₀ S₀ M S σ H ρ ∧ SPost K mg W fr H₀ S₀ M (d ρ) D
theorem canonS_ok {K : PySem.W.Frag} {mg : Str → Option Value} {W : WX} {fr : Bool} {d : DenS} : SOk K mg W fr (canonS K mg W fr d) d := fun H₀ S₀ M S σ H ρ D ab hp => ⟨H₀, S₀, M, S, ρ, ab, hp⟩
theorem canonS_to {K : PySem.W.Frag} {mg : Str → Option Value} {W : WX} {fr : Bool} {d : DenS} {t : TS} (h : SOk K mg W fr t d) {D : Ends} {σ : St} {H : Hp} (q : canonS K mg W fr d D σ H) : t D σ H := by
  obtain ⟨H₀, S₀, M, S, ρ, ab, hp⟩ := q
  exact h H₀ S₀ M S σ H ρ D ab hp
/-- an expression, shared; a fresh object; a test; and, or; arguments; a part of a slice; what is walked; statements -/
abbrev DE (X : Cx) (W : WX) (e : Expr) (d : Den) : Prop := PE X e (canon X.K X.mg W (rV X.K) d)
abbrev DF (X : Cx) (W : WX) (e : Expr) (d : Den) : Prop := PE X e (canon X.K X.mg W (rF X.K) d)
abbrev DT (X : Cx) (W : WX) (e : Expr) (d : DenB) : Prop := PT X e (canon X.K X.mg W rB d)
abbrev DW (X : Cx) (W : WX) (e : Expr) (d : DenB) : Prop := PW X e (canon X.K X.mg W rB d)
abbrev DA (X : Cx) (W : WX) (es : List Expr) (d : DenL) : Prop := PA X es (canon X.K X.mg W (rL X.K) d)
abbrev DO (X : Cx) (W : WX) (e : Option Expr) (d : DenO) : Prop := PO X e (canon X.K X.mg W rO d)
abbrev DI (X : Cx) (W : WX) (tg e : Expr) (d : DenL) : Prop := PI X tg e (canon X.K X.mg W (rIt X.K) d)
abbrev DTs (X : Cx) (W : WX) (es : List Expr) (d : DenB) : Prop := PTs X es (canon X.K X.mg W rB d)
abbrev DS (X : Cx) (W : WX) (fr : Bool) (st : Stmt) (d : DenS) : Prop := PS X st (canonS X.K X.mg W fr d)
abbrev DSs (X : Cx) (W : WX) (fr : Bool) (st : List Stmt) (d : DenS) : Prop := PSs X st (canonS X.K X.mg W fr d)
section
variable {X : Cx} {W : WX} {fr : Bool}
theorem DE.of {e : Expr} {t : TE} {d : Den} (h : PE X e t) (k : EOk X.K X.mg W t d) : DE X W e d := ⟨fun pins s σ H Q I q => h.run pins s σ H Q I (canon_to k q)⟩
theorem DF.of {e : Expr} {t : TE} {d : Den} (h : PE X e t) (k : FOk X.K X.mg W t d) : DF X W e d := ⟨fun pins s σ H Q I q => h.run pins s σ H Q I (canon_to k q)⟩
theorem DT.of {e : Expr} {t : TT} {d : DenB} (h : PT X e t) (k : TOk X.K X.mg W t d) : DT X W e d := ⟨fun pins s σ H Q I q => h.run pins s σ H Q I (canon_to k q)⟩
theorem DW.of {e : Expr} {t : TT} {d : DenB} (h : PW X e t) (k : TOk X.K X.mg W t d) : DW X W e d := ⟨fun wh pins s σ H Q I q => h.run wh pins s σ H Q I (canon_to k q)⟩
theorem DA.of {es : List Expr} {t : TA} {d : DenL} (h : PA X es t) (k : AOk X.K X.mg W t d) : DA X W es d := ⟨fun pos pins s σ H Q I q => h.run pos pins s σ H Q I (canon_to k q)⟩
theorem DO.of {e : Option Expr} {t : TO} {d : DenO} (h : PO X e t) (k : OOk X.K X.mg W t d) : DO X W e d := ⟨fun pins s σ H Q I q => h.run pins s σ H Q I (canon_to k q)⟩
theorem DI.of {tg e : Expr} {t : TI} {d : DenL} (h : PI X tg e t) (k : IOk X.K X.mg W t d) : DI X W tg e d := ⟨fun pins s σ H R I q => h.run pins s σ H R I (canon_to k q)⟩
theorem DTs.of {es : List Expr} {t : TT} {d : DenB} (h : PTs X es t) (k : TOk X.K X.mg W t d) : DTs X W es d := ⟨fun pins s σ H Q I q => h.run pins s σ H Q I (canon_to k q)⟩
theorem DS.of {st : Stmt} {t : TS} {d : DenS} (h : PS X st t) (k : SOk X.K X.mg W fr t d) : DS X W fr st d := ⟨fun pins s σ H D I q => h.run pins s σ H D I (canonS_to k q)⟩
theorem DSs.of {st : List Stmt} {t : TS} {d : DenS} (h : PSs X st t) (k : SOk X.K X.mg W fr t d) : DSs X W fr st d := ⟨fun pins s σ H D I q => h.run pins s σ H D I (canonS_to k q)⟩
theorem DF.sh {e : Expr} {d : Den} (h : DF X W e d) : DE X W e d := DE.of h canon_ok.shared
end

/-- what a body's context grants -/
structure Ctx (X : Cx) (W : WX) (k : Nat) : Prop where
  calm : X.calm = true
  nd : X.N.Nodup
  room : Room k X.A
  tk : Takes X W
theorem Ctx.blk {X : Cx} {W : WX} {k : Nat} (c : Ctx X W k) {s : Shared} {H : Hp} {scope : Scope} {env : PySem.Env} {fp : List Addr} : Ctx (X.blk s H scope env fp) (fun _ _ _ _ => False) k := ⟨c.calm, c.nd, c.room, takes0⟩
theorem Ctx.hu {X : Cx} {W : WX} {k : Nat} (c : Ctx X W k) : X.A.units + 64 < cLine := c.room.units
theorem Ctx.hu1 {X : Cx} {W : WX} {k : Nat} (c : Ctx X W k) : X.A.units + 65 < cLine := by have := c.room.un; omega

/-- the built-in names are the built-ins -/
structure Bi (mg : Str → Option Value) : Prop where
  len : mg "len" = none
  abs : mg "abs" = none
  max : mg "max" = none
  min : mg "min" = none
  int : mg "int" = none
  sum : mg "sum" = none
  range : mg "range" = none
  list : mg "list" = none
  tuple : mg "tuple" = none
  sorted : mg "sorted" = none
  set : mg "set" = none
  zip : mg "zip" = none
  enumerate : mg "enumerate" = none
  reversed : mg "reversed" = none
  isinstance : mg "isinstance" = none
  str : mg "str" = none
  bool : mg "bool" = none
  dict : mg "dict" = none
  any : mg "any" = none
  all : mg "all" = none

section
variable {X : Cx} {W : WX} {fr : Bool} {k : Nat} {pos p p2 p3 apos cpos np : Pos} {e a b : Expr} {es rest : List Expr} {da db dc : Den} {dt du : DenB} {dl : DenL} {x : Str}
/-! ### expressions -/
theorem de_var (i : Nat) (hN : X.N[i]? = some x := by rfl) (hv : Vis X.env.scope x := by first | exact Or.inl rfl | exact Or.inr (Or.inl rfl) | exact Or.inr (Or.inr rfl)) (hd : (x == ("__debug__" : Str)) = false := by decide)
    (hcd : (x == ("__classdict__" : Str)) = false := by decide) : DE X W (.Name x pos) (dVar i) := DE.of (pe_var hN hv hd hcd) eo_var
theorem de_int {i : Int} {j : Nat} : DE X W (.Constant (.int i) j pos) (dC (.int i)) := DE.of pe_int (eo_c fun _ => .int i)
theorem de_bl {i : Bool} {j : Nat} : DE X W (.Constant (.bool i) j pos) (dC (.bl i)) := DE.of pe_bl (eo_c fun _ => .bl i)
theorem de_non {j : Nat} : DE X W (.Constant .none j pos) (dC .non) := DE.of pe_non (eo_c fun _ => .non)
theorem de_str {i : Str} {j : Nat} : DE X W (.Constant (.str i) j pos) (dC (.str i)) := DE.of pe_str (eo_c fun _ => .str i)
/-- a constant of the module -/
theorem de_glob {v : V} {q : PV} {u : Value} (hm : X.mg x = some u) (r : RelV v u) (h : ∀ S, Rep X.K S q v) (hg : Gl X x := by rfl) (hd : (x == ("__debug__" : Str)) = false := by decide) : DE X W (.Name x pos) (dC q) := DE.of (pe_glob hg hm r hd) (eo_c h)
theorem de_op {op : Operator} {r : R2} {g : PV → PV → Option PV} (ho : OpR X (binaryOp op) r) (hv : V2 X.K r g) (ha : DE X W a da) (hb : DE X W b db) : DE X W (.BinOp a op b pos) (d2 g da db) := DE.of (pe_op ho ha hb) (eo_2 canon_ok canon_ok hv)
theorem df_op {op : Operator} {r : R2} {g : PV → PV → Option PV} (ho : OpR X (binaryOp op) r) (hv : V2F X.K r g) (ha : DE X W a da) (hb : DE X W b db) : DF X W (.BinOp a op b pos) (d2 g da db) := DF.of (pe_op ho ha hb) (fo_2 canon_ok canon_ok hv)
abbrev dAdd := d2 gAdd
abbrev dSub := d2 gSub
abbrev dMul := d2 gMul
abbrev dFdiv := d2 gFdiv
abbrev dMod := d2 gMod
abbrev dPow := d2 gPow
abbrev dNeg := d1 gNeg
theorem de_add (ha : DE X W a da) (hb : DE X W b db) : DE X W (.BinOp a .Add b pos) (dAdd da db) := de_op op_addU v2_add ha hb
theorem de_sub (ha : DE X W a da) (hb : DE X W b db) : DE X W (.BinOp a .Sub b pos) (dSub da db) := de_op op_sub v2_sub ha hb
theorem de_mul (ha : DE X W a da) (hb : DE X W b db) : DE X W (.BinOp a .Mult b pos) (dMul da db) := de_op op_mulU v2_mul ha hb
theorem de_fdiv (ha : DE X W a da) (hb : DE X W b db) : DE X W (.BinOp a .FloorDiv b pos) (dFdiv da db) := de_op op_fdiv v2_fdiv ha hb
theorem de_mod (ha : DE X W a da) (hb : DE X W b db) : DE X W (.BinOp a .Mod b pos) (dMod da db) := de_op op_mod v2_mod ha hb
theorem de_pow (ha : DE X W a da) (hb : DE X W b db) : DE X W (.BinOp a .Pow b pos) (dPow da db) := de_op op_pow v2_pow ha hb
theorem df_cat (ha : DE X W a da) (hb : DE X W b db) : DF X W (.BinOp a .Add b pos) (d2 gCat da db) := df_op op_cat v2_cat ha hb
theorem df_rep (ha : DE X W a da) (hb : DE X W b db) : DF X W (.BinOp a .Mult b pos) (d2 gRep da db) := df_op op_rep v2_rep ha hb
theorem de_neg (ha : DE X W a da) : DE X W (.UnaryOp .USub a pos) (dNeg da) := DE.of (pe_un un_neg ha) (eo_1 canon_ok v1_neg)
/-! comparisons: by the operator's rule; as values and as tests -/
structure CmpR (X : Cx) (op : CmpOp) (r : R2) (g : PV → PV → Option PV) : Prop where
  op : OpR X (compareOp op) r
  v : V2 X.K r g
  sc : ∀ p q z, g p q = some z → z.sc = true
theorem sc_cmp {f : Int → Int → Bool} : ∀ p q z, gCmpI f p q = some z → z.sc = true := by
  intro p q z e
  unfold gCmpI at e
  split at e
  · cases e; rfl
  · cases e
theorem cr_lt : CmpR X .Lt (rI0 fun i j => .bl (decide (i < j))) gLt := ⟨op_lt, v2_cmp, sc_cmp⟩
theorem cr_le : CmpR X .LtE (rI0 fun i j => .bl (decide (i ≤ j))) gLe := ⟨op_le, v2_cmp, sc_cmp⟩
theorem cr_gt : CmpR X .Gt (rI0 fun i j => .bl (decide (j < i))) gGt := ⟨op_gt, v2_cmp, sc_cmp⟩
theorem cr_ge : CmpR X .GtE (rI0 fun i j => .bl (decide (j ≤ i))) gGe := ⟨op_ge, v2_cmp, sc_cmp⟩
theorem cr_eq (c : Ctx X W k) : CmpR X .Eq (rEqD X.K) gEq := ⟨op_eqD c.hu, v2_eq, by
  intro p q z e
  unfold gEq at e
  split at e
  · cases e; rfl
  · cases e⟩
theorem cr_ne (c : Ctx X W k) : CmpR X .NotEq (rNeD X.K) gNe := ⟨op_neD c.hu, v2_ne, by
  intro p q z e
  unfold gNe at e
  split at e
  · cases e; rfl
  · cases e⟩
theorem gIn_sc {neg : Bool} : ∀ p q z, gIn neg p q = some z → z.sc = true := by
  intro p q z e
  unfold gIn at e
  split at e
  · rename_i x y
    cases h : sgn1 x with
    | none => rw [h] at e; cases e
    | some c => rw [h] at e; cases e; rfl
  · split at e
    · cases e; rfl
    · cases e
  · cases e
theorem cr_in (c : Ctx X W k) : CmpR X .In (rInU X.K) (gIn false) := ⟨OpR.or op_in_sign (op_inD c.hu1), v2_in, gIn_sc⟩
theorem cr_notIn (c : Ctx X W k) : CmpR X .NotIn (rNotInU X.K) (gIn true) := ⟨OpR.or op_notIn_sign (op_notInD c.hu1), v2_notIn, gIn_sc⟩
theorem gIsN_sc {neg : Bool} : ∀ p q z, gIsN neg p q = some z → z.sc = true := by
  intro p q z e
  cases q <;> cases p <;> simp [gIsN] at e <;> subst e <;> rfl
theorem cr_is : CmpR X .Is (fun x y H Q => y = .non ∧ Q (.bl (decide (x = .non))) H) (gIsN false) := ⟨op_isN, v2_isN, gIsN_sc⟩
theorem cr_isNot : CmpR X .IsNot (fun x y H Q => y = .non ∧ Q (.bl (!decide (x = .non))) H) (gIsN true) := ⟨op_notN, v2_notN, gIsN_sc⟩
section
variable {op op' : CmpOp} {r r' : R2} {g g' : PV → PV → Option PV}
theorem de_cmp (h : CmpR X op r g) (ha : DE X W a da) (hb : DE X W b db) (hm : behindInMarks op b = false := by rfl) : DE X W (.Compare a [op] [b] pos) (d2 g da db) := DE.of (pe_cmpR h.op ha hb hm) (eo_2 canon_ok canon_ok h.v)
theorem dt_cmp (h : CmpR X op r g) (ha : DE X W a da) (hb : DE X W b db) (hm : behindInMarks op b = false := by rfl) : DT X W (.Compare a [op] [b] pos) (bVal (d2 g da db)) := DT.of (pt_cmpR h.op ha hb hm) (to_val (eo_2 canon_ok canon_ok h.v))
theorem de_cmpl (h : CmpR X op r g) (i : Nat) (ha : PE X (.Name x p) (tVar i)) (hb : DE X W b db) (hm : behindInMarks op b = false := by rfl) : DE X W (.Compare (.Name x p) [op] [b] pos) (d2l g i db) := DE.of (pe_cmpR h.op ha hb hm) (eo_2l canon_ok h.v h.sc)
theorem dt_cmpl (h : CmpR X op r g) (i : Nat) (ha : PE X (.Name x p) (tVar i)) (hb : DE X W b db) (hm : behindInMarks op b = false := by rfl) : DT X W (.Compare (.Name x p) [op] [b] pos) (bVal (d2l g i db)) := DT.of (pt_cmpR h.op ha hb hm) (to_val (eo_2l canon_ok h.v h.sc))
theorem de_cmpr (h : CmpR X op r g) (i : Nat) (ha : DE X W a da) (hb : PE X (.Name x p) (tVar i)) (hm : behindInMarks op (.Name x p) = false := by rfl) : DE X W (.Compare a [op] [.Name x p] pos) (d2r g da i) := DE.of (pe_cmpR h.op ha hb hm) (eo_2r canon_ok h.v h.sc)
theorem dt_cmpr (h : CmpR X op r g) (i : Nat) (ha : DE X W a da) (hb : PE X (.Name x p) (tVar i)) (hm : behindInMarks op (.Name x p) = false := by rfl) : DT X W (.Compare a [op] [.Name x p] pos) (bVal (d2r g da i)) := DT.of (pt_cmpR h.op ha hb hm) (to_val (eo_2r canon_ok h.v h.sc))
/-- a op b op' c -/
def dChain (g g' : PV → PV → Option PV) (da db dc : Den) : Den := fun ρ => (da ρ).bind fun p ρ1 => (db ρ1).bind fun q ρ2 => match g p q with
  | some (.bl true) => (dc ρ2).bind fun r ρ3 => opt (g' q r) ρ3
  | some (.bl false) => .ok (.bl false) ρ2
  | _ => .bad
theorem eo_chain {K : PySem.W.Frag} {mg : Str → Option Value} {ta tb tc : TE} (hv : V2 K r g) (hv' : V2 K r' g') (ha : EOk K mg W ta da) (hb : EOk K mg W tb db) (hc : EOk K mg W tc dc) : EOk K mg W (tChain r r' ta tb tc) (dChain g g' da db dc) := by
  intro H₀ S₀ M S σ H ρ Q ab hp
  refine ha.bind (Rl' := rV K) ab hp fun p ρ1 v S1 H1 _ a1 _ r1 hp => ?_
  refine hb.bind (Rl' := rV K) a1 hp fun q ρ2 u S2 H2 _ a2 s2 r2 hp => ?_
  cases e : g p q with
  | none => simp only [e] at hp; exact hp.elim
  | some z =>
    cases z with
    | bl t =>
      refine hv S2 H2 v u p q _ _ a2.sub (r1.up s2) r2 e fun v' S3 H3 st rz => ?_
      cases rz
      cases t with
      | false =>
        simp only [e] at hp
        refine ⟨false, rfl, ?_⟩
        rw [if_neg Bool.false_ne_true]
        exact hp _ S3 H3 (a2.step st) (.bl false)
      | true =>
        simp only [e] at hp
        refine ⟨true, rfl, ?_⟩
        rw [if_pos rfl]
        refine hc.bind (Rl' := rV K) (a2.step st) hp fun c ρ3 w S4 H4 _ a4 s4 r4 hp => ?_
        cases e2 : g' q c with
        | none => rw [e2] at hp; exact hp.elim
        | some z =>
          rw [e2] at hp
          exact hv' S4 H4 u w q c z Q a4.sub (r2.up (st.s.trans s4)) r4 e2 fun v5 S5 H5 st5 rz => hp v5 S5 H5 (a4.step st5) rz
    | _ => simp only [e] at hp; exact hp.elim
theorem de_chain {c : Expr} (h : CmpR X op r g) (h' : CmpR X op' r' g') (ha : DE X W a da) (hb : DE X W b db) (hc : DE X W c dc) (hm : lastMarks [op, op'] [b, c] = false := by with_unfolding_all rfl) : DE X W (.Compare a [op, op'] [b, c] pos) (dChain g g' da db dc) :=
  DE.of (pe_chain h.op h'.op ha hb hc hm) (eo_chain h.v h'.v canon_ok canon_ok canon_ok)
theorem dt_chain {c : Expr} (h : CmpR X op r g) (h' : CmpR X op' r' g') (ha : DE X W a da) (hb : DE X W b db) (hc : DE X W c dc) (hm : lastMarks [op, op'] [b, c] = false := by with_unfolding_all rfl) : DT X W (.Compare a [op, op'] [b, c] pos) (bVal (dChain g g' da db dc)) :=
  DT.of (pt_chain h.op h'.op ha hb hc hm) (to_val (eo_chain h.v h'.v canon_ok canon_ok canon_ok))
end
/-! truth, and, or, not, if -/
theorem dt_tru (ha : DE X W a da) (he : ∀ whole, isTrue a X.env whole = (do let v ← whole; standAt a.pos; holding [v] (truthy v)) := by intro _; rfl) : DT X W a (bTru da) := DT.of (pt_truth ha he) (to_tru canon_ok vt_truth)
theorem dt_truv (i : Nat) (ha : PE X (.Name x p) (tVar i)) : DT X W (.Name x p) (bTruV i) := DT.of (pt_truth ha fun _ => rfl) (to_truv vt_truth)
theorem dt_w (h : DW X W a dt) : DT X W a dt := h.pt
theorem dw_and1 (h : DT X W a dt) : DW X W (.BoolOp .And [a] pos) dt := pw_and1 h
theorem dw_or1 (h : DT X W a dt) : DW X W (.BoolOp .Or [a] pos) dt := pw_or1 h
theorem dw_and (h : DT X W a dt) (h2 : DW X W (.BoolOp .And (b :: rest) pos) du) : DW X W (.BoolOp .And (a :: b :: rest) pos) (bAnd dt du) := DW.of (pw_and h h2) (to_and canon_ok canon_ok)
theorem dw_or (h : DT X W a dt) (h2 : DW X W (.BoolOp .Or (b :: rest) pos) du) : DW X W (.BoolOp .Or (a :: b :: rest) pos) (bOr dt du) := DW.of (pw_or h h2) (to_or canon_ok canon_ok)
theorem dt_not (h : DT X W a dt) : DT X W (.UnaryOp .Not a pos) (bNot dt) := DT.of (pt_not h) (to_not canon_ok)
/-- by truth, as values -/
def dAndT (da db : Den) : Den := fun ρ => (da ρ).bind fun p ρ1 => match truth p with
  | none => .bad
  | some b => if b = true then db ρ1 else .ok p ρ1
def dOrT (da db : Den) : Den := fun ρ => (da ρ).bind fun p ρ1 => match truth p with
  | none => .bad
  | some b => if b = true then .ok p ρ1 else db ρ1
def dNotT (da : Den) : Den := fun ρ => (da ρ).bind fun p ρ1 => opt ((truth p).map fun b => .bl (!b)) ρ1
theorem de_oneA (h : DE X W a da) : DE X W (.BoolOp .And [a] pos) da := pe_one h
theorem de_oneO (h : DE X W a da) : DE X W (.BoolOp .Or [a] pos) da := pe_one h
theorem de_and (h : DE X W a da) (h2 : DE X W (.BoolOp .And (b :: rest) pos) db) : DE X W (.BoolOp .And (a :: b :: rest) pos) (dAndT da db) := DE.of (pe_andT h h2) fun H₀ S₀ M S σ H ρ Q ab hp =>
  canon_ok.bind (Rl := rV X.K) (Rl' := rV X.K) ab hp fun p ρ1 v S1 H1 _ a1 _ r1 hp => by
    cases e : truth p with
    | none => simp only [e] at hp; exact hp.elim
    | some t =>
      simp only [e] at hp
      obtain ⟨z, h3, h4⟩ := vt_truth S1 H1 v p t (fun b' H' => b' = t ∧ H' = H1) a1.sub r1 e ⟨rfl, rfl⟩
      obtain ⟨h4, _⟩ := h4
      subst h4
      refine ⟨z, h3, ?_⟩
      cases z with
      | true => exact ⟨H₀, S₀, M, S1, ρ1, a1, hp⟩
      | false => exact hp v S1 H1 a1 r1
theorem de_or (h : DE X W a da) (h2 : DE X W (.BoolOp .Or (b :: rest) pos) db) : DE X W (.BoolOp .Or (a :: b :: rest) pos) (dOrT da db) := DE.of (pe_orT h h2) fun H₀ S₀ M S σ H ρ Q ab hp =>
  canon_ok.bind (Rl := rV X.K) (Rl' := rV X.K) ab hp fun p ρ1 v S1 H1 _ a1 _ r1 hp => by
    cases e : truth p with
    | none => simp only [e] at hp; exact hp.elim
    | some t =>
      simp only [e] at hp
      obtain ⟨z, h3, h4⟩ := vt_truth S1 H1 v p t (fun b' H' => b' = t ∧ H' = H1) a1.sub r1 e ⟨rfl, rfl⟩
      obtain ⟨h4, _⟩ := h4
      subst h4
      refine ⟨z, h3, ?_⟩
      cases z with
      | false => exact ⟨H₀, S₀, M, S1, ρ1, a1, hp⟩
      | true => exact hp v S1 H1 a1 r1
theorem de_not (h : DE X W a da) : DE X W (.UnaryOp .Not a pos) (dNotT da) := DE.of (pe_notT h) fun H₀ S₀ M S σ H ρ Q ab hp =>
  canon_ok.bind (Rl := rV X.K) (Rl' := rV X.K) ab hp fun p ρ1 v S1 H1 _ a1 _ r1 hp => by
    cases e : truth p with
    | none => rw [e] at hp; exact hp.elim
    | some t =>
      rw [e] at hp
      obtain ⟨z, h3, h4⟩ := vt_truth S1 H1 v p t (fun b' H' => b' = t ∧ H' = H1) a1.sub r1 e ⟨rfl, rfl⟩
      obtain ⟨h4, _⟩ := h4
      subst h4
      exact ⟨z, h3, hp _ S1 H1 a1 (.bl _)⟩
theorem de_if {c : Expr} (hc : DT X W c dt) (ha : DE X W a da) (hb : DE X W b db) : DE X W (.IfExp c a b pos) (dIf dt da db) := DE.of (pe_ifExp hc ha hb) (eo_if canon_ok canon_ok canon_ok)
/-! arguments, displays -/
theorem da_nil : DA X W [] dNil := DA.of pa_nil ao_nil
theorem da_cons (ha : DE X W e da) (hr : DA X W es dl) (hs : starEach (e :: es) X.env = (false, eval e X.env) :: starEach es X.env := by rfl) : DA X W (e :: es) (dCons da dl) := DA.of (pa_cons ha hr hs) (ao_cons canon_ok canon_ok)
def dLst (dl : DenL) : Den := fun ρ => (dl ρ).bind fun ps ρ1 => if ps.length ≤ sizeLine then .ok (.lst ps) ρ1 else .bad
def dTup (dl : DenL) : Den := fun ρ => (dl ρ).bind fun ps ρ1 => if ps.length ≤ sizeLine then .ok (.tup ps) ρ1 else .bad
theorem df_lst (h : DA X W es dl) : DF X W (.List es pos) (dLst dl) := DF.of (pe_lst h) fun H₀ S₀ M S σ H ρ Q ab hp =>
  canon_ok.bind (Rl' := rF X.K) ab hp fun ps ρ1 vs S1 H1 _ a1 _ r1 hp => by
    split at hp
    · rename_i hz
      have r1 : RepL X.K S1 ps vs := r1
      refine ⟨by rw [← r1.length]; exact hz, fun c n => hp _ S1 _ (a1.fresh n (p := .lst ps) (o := .lst vs) r1).1 (a1.fresh n (p := .lst ps) (o := .lst vs) r1).2⟩
    · exact hp.elim
theorem de_tup {j : Nat} (h : DA X W es dl) : DE X W (.Tuple es j pos) (dTup dl) := DE.of (pe_tup h) fun H₀ S₀ M S σ H ρ Q ab hp =>
  canon_ok.bind (Rl' := rV X.K) ab hp fun ps ρ1 vs S1 H1 _ a1 _ r1 hp => by
    split at hp
    · rename_i hz
      have r1 : RepL X.K S1 ps vs := r1
      refine ⟨by rw [← r1.length]; exact hz, fun c n => hp _ (upd S1 c (.tup vs)) _ (a1.step (Step.new1 a1.sub n)) (.tup upd_same (r1.up (same_upd (Same.free a1.sub n))))⟩
    · exact hp.elim
/-! subscripts and slices -/
theorem de_ix (ha : DE X W a da) (hb : DE X W b db) (hs : PlainIx b := by intro _ _; rfl) : DE X W (.Subscript a b pos) (d2 gIx da db) := DE.of (pe_ix ix_seq ha hb hs) (eo_2 canon_ok canon_ok v2_ix)
theorem de_ixv (i : Nat) (ha : PE X (.Name x p) (tVar i)) (hb : DE X W b db) (hs : PlainIx b := by intro _ _; rfl) : DE X W (.Subscript (.Name x p) b pos) (d2l gIx i db) := DE.of (pe_ix ix_seq ha hb hs) (eo_ixv canon_ok)
theorem do_none : DO X W none oNone := DO.of po_none oo_none
theorem do_some (h : DE X W e da) : DO X W (some e) (oSome da) := DO.of (po_some h) (oo_some canon_ok)
theorem de_sl {lo hi : Option Expr} {dlo dhi : DenO} (ha : DE X W a da) (hl : DO X W lo dlo) (hh : DO X W hi dhi) : DE X W (.Subscript a (.Slice lo hi none p2) pos) (dSl gSl da dlo dhi) := DE.of (pe_slice sl_U ha hl hh) (eo_sl canon_ok canon_ok canon_ok vs_U)
theorem df_sl {lo hi : Option Expr} {dlo dhi : DenO} (ha : DE X W a da) (hl : DO X W lo dlo) (hh : DO X W hi dhi) : DF X W (.Subscript a (.Slice lo hi none p2) pos) (dSl gSlL da dlo dhi) := DF.of (pe_slice sl_list ha hl hh) (fo_sl canon_ok canon_ok canon_ok vsf_list)
theorem df_slv {lo hi : Option Expr} {dlo dhi : DenO} (i : Nat) (ha : PE X (.Name x p) (tVar i)) (hl : DO X W lo dlo) (hh : DO X W hi dhi) : DF X W (.Subscript (.Name x p) (.Slice lo hi none p2) pos) (dSlv gSlL i dlo dhi) := DF.of (pe_slice sl_list ha hl hh) (fo_slv canon_ok canon_ok)
/-! built-in functions -/
theorem de_b {id : String} {r : List V → Hp → VK → Prop} {g : List PV → Option PV} (hc : CallR X (.builtin id) r) (hv : VN X.K r g) (hm : X.mg x = none) (hb : bootBuiltins x = some (.builtin id)) (ha : DA X W (e :: es) dl) (hg : Gl X x := by rfl) (hn : x ≠ "__name__" := by decide) (hdb : (x == ("__debug__" : Str)) = false := by decide)
    (he : starEach (e :: es) X.env = (false, eval e X.env) :: starEach es X.env := by rfl) (hpl : (backTo pos (starEach es X.env)).any (·.1) = false := by rfl) : DE X W (.Call (.Name x p) (e :: es) [] pos) (dN g dl) := DE.of (pe_callB hc hg hm hb ha hn hdb he hpl) (eo_n canon_ok hv)
theorem de_bty {T : String} {r : List V → Hp → VK → Prop} {g : List PV → Option PV} (hc : CallR X (.type T) r) (hv : VN X.K r g) (hm : X.mg x = none) (hb : bootBuiltins x = some (.type T)) (ha : DA X W (e :: es) dl) (hg : Gl X x := by rfl) (hn : x ≠ "__name__" := by decide) (hdb : (x == ("__debug__" : Str)) = false := by decide)
    (he : starEach (e :: es) X.env = (false, eval e X.env) :: starEach es X.env := by rfl) (hpl : (backTo pos (starEach es X.env)).any (·.1) = false := by rfl) : DE X W (.Call (.Name x p) (e :: es) [] pos) (dN g dl) := DE.of (pe_callTy hc hg hm hb ha hn hdb he hpl) (eo_n canon_ok hv)
theorem de_lenv (B : Bi X.mg) (i : Nat) (ha : PE X (.Name x p2) (tVar i)) (hg : Gl X "len" := by rfl) (he : starEach [.Name x p2] X.env = (false, eval (.Name x p2) X.env) :: starEach [] X.env := by rfl) (hs : starEach ([] : List Expr) X.env = [] := by rfl) (hpl : (backTo pos (starEach [] X.env)).any (·.1) = false := by rfl) :
    DE X W (.Call (.Name "len" p) [.Name x p2] [] pos) (d1v gLen i) := DE.of (pe_callB call_len hg B.len PySem.boot_len (pa_cons ha pa_nil he) (by decide) (by decide) he hpl) (eo_nv vn_len len_sc)
theorem de_len (B : Bi X.mg) (ha : DA X W (e :: es) dl) (hg : Gl X "len" := by rfl) (he : starEach (e :: es) X.env = (false, eval e X.env) :: starEach es X.env := by rfl) (hpl : (backTo pos (starEach es X.env)).any (·.1) = false := by rfl) :
    DE X W (.Call (.Name "len" p) (e :: es) [] pos) (dN gLenN dl) := de_b call_len vn_len B.len PySem.boot_len ha hg (by decide) (by decide) he hpl
theorem de_abs (B : Bi X.mg) (ha : DA X W (e :: es) dl) (hg : Gl X "abs" := by rfl) (he : starEach (e :: es) X.env = (false, eval e X.env) :: starEach es X.env := by rfl) (hpl : (backTo pos (starEach es X.env)).any (·.1) = false := by rfl) :
    DE X W (.Call (.Name "abs" p) (e :: es) [] pos) (dN gAbs dl) := de_b call_abs vn_abs B.abs (by decide +kernel) ha hg (by decide) (by decide) he hpl
theorem de_max2 (c : Ctx X W k) (B : Bi X.mg) (ha : DA X W (e :: es) dl) (hg : Gl X "max" := by rfl) (he : starEach (e :: es) X.env = (false, eval e X.env) :: starEach es X.env := by rfl) (hpl : (backTo pos (starEach es X.env)).any (·.1) = false := by rfl) :
    DE X W (.Call (.Name "max" p) (e :: es) [] pos) (dN gMax2 dl) := de_b (call_max2 c.calm) vn_max2 B.max (by decide +kernel) ha hg (by decide) (by decide) he hpl
theorem de_min2 (c : Ctx X W k) (B : Bi X.mg) (ha : DA X W (e :: es) dl) (hg : Gl X "min" := by rfl) (he : starEach (e :: es) X.env = (false, eval e X.env) :: starEach es X.env := by rfl) (hpl : (backTo pos (starEach es X.env)).any (·.1) = false := by rfl) :
    DE X W (.Call (.Name "min" p) (e :: es) [] pos) (dN gMin2 dl) := de_b (call_min2 c.calm) vn_min2 B.min (by decide +kernel) ha hg (by decide) (by decide) he hpl
theorem de_sum (c : Ctx X W k) (B : Bi X.mg) (ha : DA X W (e :: es) dl) (hg : Gl X "sum" := by rfl) (he : starEach (e :: es) X.env = (false, eval e X.env) :: starEach es X.env := by rfl) (hpl : (backTo pos (starEach es X.env)).any (·.1) = false := by rfl) :
    DE X W (.Call (.Name "sum" p) (e :: es) [] pos) (dN gSumN dl) := de_b (cr_sum c.calm) vn_sum B.sum (by decide +kernel) ha hg (by decide) (by decide) he hpl
theorem de_toint (B : Bi X.mg) (ha : DA X W (e :: es) dl) (hg : Gl X "int" := by rfl) (he : starEach (e :: es) X.env = (false, eval e X.env) :: starEach es X.env := by rfl) (hpl : (backTo pos (starEach es X.env)).any (·.1) = false := by rfl) :
    DE X W (.Call (.Name "int" p) (e :: es) [] pos) (dN gInt dl) := de_bty call_intU vn_int B.int (by decide +kernel) ha hg (by decide) (by decide) he hpl
/-! what changes a list -/
theorem de_append (i : Nat) (ho : PE X (.Name x np) (tVar i)) (ha : DA X W (e :: es) dl) (hbase : attributeBase (.Name x np) "append" X.env (eval (.Name x np) X.env) = eval (.Name x np) X.env := by rfl)
    (hfew : ((backTo cpos (starEach (e :: es) X.env)).all (fun x => !x.1) && (backToKw cpos (keywordEach [] X.env)).all (fun x => x.1.isSome) && decide ((e :: es).length + ([] : List Keyword).length + (if ([] : List Keyword).isEmpty then 0 else 1) < 30)) = true := by rfl)
    (hline : (apos.endLine == cpos.line) = true := by rfl) (hs : starEach (e :: es) X.env = (false, eval e X.env) :: starEach es X.env := by rfl) (hplain : (backTo cpos (starEach es X.env)).any (·.1) = false := by rfl) :
    DE X W (.Call (.Attribute (.Name x np) "append" apos) (e :: es) [] cpos) (dMut "list" gAppend i dl) :=
  DE.of (pe_bm PySem.F.plainAttrs_list PySem.F.slot_list_append PySem.F.type_list_append mt_append ho ha hbase hfew hline hs hplain) (eo_mut canon_ok mu_append)
theorem de_extend (i : Nat) (ho : PE X (.Name x np) (tVar i)) (ha : DA X W (e :: es) dl) (hbase : attributeBase (.Name x np) "extend" X.env (eval (.Name x np) X.env) = eval (.Name x np) X.env := by rfl)
    (hfew : ((backTo cpos (starEach (e :: es) X.env)).all (fun x => !x.1) && (backToKw cpos (keywordEach [] X.env)).all (fun x => x.1.isSome) && decide ((e :: es).length + ([] : List Keyword).length + (if ([] : List Keyword).isEmpty then 0 else 1) < 30)) = true := by rfl)
    (hline : (apos.endLine == cpos.line) = true := by rfl) (hs : starEach (e :: es) X.env = (false, eval e X.env) :: starEach es X.env := by rfl) (hplain : (backTo cpos (starEach es X.env)).any (·.1) = false := by rfl) :
    DE X W (.Call (.Attribute (.Name x np) "extend" apos) (e :: es) [] cpos) (dMut "list" gExtend i dl) :=
  DE.of (pe_bm PySem.F.plainAttrs_list PySem.F.slot_list_extend PySem.F.type_list_extend mt_extend ho ha hbase hfew hline hs hplain) (eo_mut canon_ok mu_extend)
theorem de_popAt (i : Nat) (ho : PE X (.Name x np) (tVar i)) (ha : DA X W (e :: es) dl) (hbase : attributeBase (.Name x np) "pop" X.env (eval (.Name x np) X.env) = eval (.Name x np) X.env := by rfl)
    (hfew : ((backTo cpos (starEach (e :: es) X.env)).all (fun x => !x.1) && (backToKw cpos (keywordEach [] X.env)).all (fun x => x.1.isSome) && decide ((e :: es).length + ([] : List Keyword).length + (if ([] : List Keyword).isEmpty then 0 else 1) < 30)) = true := by rfl)
    (hline : (apos.endLine == cpos.line) = true := by rfl) (hs : starEach (e :: es) X.env = (false, eval e X.env) :: starEach es X.env := by rfl) (hplain : (backTo cpos (starEach es X.env)).any (·.1) = false := by rfl) :
    DE X W (.Call (.Attribute (.Name x np) "pop" apos) (e :: es) [] cpos) (dMut "list" gPopAt i dl) :=
  DE.of (pe_bm PySem.F.plainAttrs_list PySem.F.slot_list_pop PySem.F.type_list_pop mt_popAt ho ha hbase hfew hline hs hplain) (eo_mut canon_ok mu_popAt)
theorem de_pop (i : Nat) (ho : PE X (.Name x np) (tVar i)) (hbase : attributeBase (.Name x np) "pop" X.env (eval (.Name x np) X.env) = eval (.Name x np) X.env := by rfl) (hline : (apos.endLine == cpos.line) = true := by rfl) :
    DE X W (.Call (.Attribute (.Name x np) "pop" apos) [] [] cpos) (dMut0 "list" gPop i) :=
  DE.of (pe_bm0 PySem.F.plainAttrs_list PySem.F.slot_list_pop PySem.F.type_list_pop mt_pop ho hbase hline) (eo_mut0 mu_pop)
theorem de_reverse (i : Nat) (ho : PE X (.Name x np) (tVar i)) (hbase : attributeBase (.Name x np) "reverse" X.env (eval (.Name x np) X.env) = eval (.Name x np) X.env := by rfl) (hline : (apos.endLine == cpos.line) = true := by rfl) :
    DE X W (.Call (.Attribute (.Name x np) "reverse" apos) [] [] cpos) (dMut0 "list" gReverse i) :=
  DE.of (pe_bm0 PySem.F.plainAttrs_list PySem.F.slot_list_reverse PySem.F.type_list_reverse mt_reverse ho hbase hline) (eo_mut0 mu_reverse)
end

/-! ### defs called by name -/
structure Fd (P : Program) (w : World) (K : PySem.W.Frag) (mg : Str → Option Value) (base : Heap) (x : Str) (k : Nat) (io fr : Bool) (n : Nat) (F : List PV → FR) : Prop where
  ex : ∃ (f : Addr) (fd : FuncData) (ps : List Str), FnOk P w K mg base (L2.CX P w) k f fd ps (spD K mg io fr n F) ∧ mg x = some (.ref f) ∧ PySem.W.keepIn K (.ref f) = true ∧ Binds K fd ps []
  len : ∀ ps, F ps ≠ .bad → ps.length = n
section
variable {X : Cx} {W : WX} {fr : Bool} {j k : Nat} {pos p p2 : Pos} {e : Expr} {es : List Expr} {dl : DenL} {x y : Str} {n : Nat} {F : List PV → FR}
theorem de_call (G : Fd X.prog X.w X.K X.mg X.base x j false false n F) (c : Ctx X W k) (ha : DA X W (e :: es) dl) (hj : j ≤ k := by decide) (hg : Gl X x := by rfl) (hdb : (x == ("__debug__" : Str)) = false := by decide)
    (he : starEach (e :: es) X.env = (false, eval e X.env) :: starEach es X.env := by rfl) (hpl : (backTo pos (starEach es X.env)).any (·.1) = false := by rfl) : DE X W (.Call (.Name x p) (e :: es) [] pos) (dCall F dl) := by
  obtain ⟨f, fd, ps, h1, h2, h3, h4⟩ := G.ex
  exact DE.of (pe_callS h1 (c.room.mono hj) hg h2 h3 h4 (fun σ => passAt c.tk σ) ha hdb he hpl) (eo_call canon_ok G.len)
theorem df_call (G : Fd X.prog X.w X.K X.mg X.base x j false true n F) (c : Ctx X W k) (ha : DA X W (e :: es) dl) (hj : j ≤ k := by decide) (hg : Gl X x := by rfl) (hdb : (x == ("__debug__" : Str)) = false := by decide)
    (he : starEach (e :: es) X.env = (false, eval e X.env) :: starEach es X.env := by rfl) (hpl : (backTo pos (starEach es X.env)).any (·.1) = false := by rfl) : DF X W (.Call (.Name x p) (e :: es) [] pos) (dCall F dl) := by
  obtain ⟨f, fd, ps, h1, h2, h3, h4⟩ := G.ex
  exact DF.of (pe_callS h1 (c.room.mono hj) hg h2 h3 h4 (fun σ => passAt c.tk σ) ha hdb he hpl) (fo_call canon_ok G.len)
theorem de_callIo (G : Fd X.prog X.w X.K X.mg X.base x j true false n F) (c : Ctx X W k) (i : Nat) (ho : PE X (.Name y p2) (tVar i)) (ha : DA X W es dl) (hj : j ≤ k := by decide) (hg : Gl X x := by rfl) (hdb : (x == ("__debug__" : Str)) = false := by decide)
    (he : starEach (.Name y p2 :: es) X.env = (false, eval (.Name y p2) X.env) :: starEach es X.env := by rfl) (hpl : (backTo pos (starEach es X.env)).any (·.1) = false := by rfl) : DE X W (.Call (.Name x p) (.Name y p2 :: es) [] pos) (dCallIo F i dl) := by
  obtain ⟨f, fd, ps, h1, h2, h3, h4⟩ := G.ex
  exact DE.of (pe_callS h1 (c.room.mono hj) hg h2 h3 h4 (fun σ => passAt c.tk σ) (pa_cons ho ha he) hdb he hpl) (eo_callIo canon_ok G.len)
theorem df_callIo (G : Fd X.prog X.w X.K X.mg X.base x j true true n F) (c : Ctx X W k) (i : Nat) (ho : PE X (.Name y p2) (tVar i)) (ha : DA X W es dl) (hj : j ≤ k := by decide) (hg : Gl X x := by rfl) (hdb : (x == ("__debug__" : Str)) = false := by decide)
    (he : starEach (.Name y p2 :: es) X.env = (false, eval (.Name y p2) X.env) :: starEach es X.env := by rfl) (hpl : (backTo pos (starEach es X.env)).any (·.1) = false := by rfl) : DF X W (.Call (.Name x p) (.Name y p2 :: es) [] pos) (dCallIo F i dl) := by
  obtain ⟨f, fd, ps, h1, h2, h3, h4⟩ := G.ex
  exact DF.of (pe_callS h1 (c.room.mono hj) hg h2 h3 h4 (fun σ => passAt c.tk σ) (pa_cons ho ha he) hdb he hpl) (fo_callIo canon_ok G.len)
end
end PL

set_option Elab.async false
set_option linter.all false
set_option maxRecDepth 100000
set_option maxHeartbeats 4000000
namespace PL
open PySem PySem.Spec L2
set_option autoImplicit false

/-! ### what is walked -/
section
variable {K : PySem.W.Frag} {S H : Hp}
theorem itr_list {a : Addr} {vs : List V} {ps : List PV} (s : Same S H) (h : S a = some (.lst vs)) (r : RepL K S ps vs) : ItR K S H ps (Itl K a) := fun i S1 H1 s1 s2 => by
  have hl : SqL K H1 a vs := .inl (.inl (s2 _ _ (s1 _ _ h)))
  refine ⟨fun hi => ⟨vs, hl, by rw [← r.length]; exact hi⟩, fun p e => ?_⟩
  obtain ⟨v, h1, h2⟩ := r.get e
  refine ⟨⟨vs, v, hl, h1⟩, fun x H2 y => ?_⟩
  obtain ⟨e1, y⟩ := y
  subst e1
  have e2 := y vs hl
  rw [h1] at e2
  cases e2
  exact ⟨S1, Step.refl s2, h2.up s1⟩
theorem itr_tup {a : Addr} {vs : List V} {ps : List PV} (s : Same S H) (h : SqT K S a vs) (r : RepL K S ps vs) : ItR K S H ps (Itt K a) := fun i S1 H1 s1 s2 => by
  have hl : SqT K H1 a vs := Same.tupK s2 (Same.tupK s1 h)
  refine ⟨fun hi => ⟨vs, hl, by rw [← r.length]; exact hi⟩, fun p e => ?_⟩
  obtain ⟨v, h1, h2⟩ := r.get e
  refine ⟨⟨vs, v, hl, h1⟩, fun x H2 y => ?_⟩
  obtain ⟨e1, y⟩ := y
  subst e1
  have e2 := y vs hl
  rw [h1] at e2
  cases e2
  exact ⟨S1, Step.refl s2, h2.up s1⟩
def signs (x : Str) : List PV := x.cps.toList.map fun c => .str ⟨#[c]⟩
theorem itr_str {x : Str} : ItR K S H (signs x) (Its x) := fun i S1 H1 s1 s2 => by
  refine ⟨fun hi => ?_, fun p e => ?_⟩
  · have hi : (x.cps.toList.map fun c => (PV.str ⟨#[c]⟩)).length ≤ i := hi
    rw [List.length_map, Array.length_toList] at hi
    exact hi
  · have e : (x.cps.toList.map fun c => (PV.str ⟨#[c]⟩))[i]? = some p := e
    rw [List.getElem?_map] at e
    cases h : x.cps.toList[i]? with
    | none => rw [h] at e; cases e
    | some c =>
      rw [h] at e
      cases e
      have hi : i < x.cps.size := by
        have z := (List.getElem?_eq_some_iff.mp h).1
        rw [Array.length_toList] at z
        exact z
      refine ⟨hi, fun v H2 y => ?_⟩
      obtain ⟨e1, d, h1, h2⟩ := y
      subst e1
      have h3 : x.cps[i]? = some c := by rw [← Array.getElem?_toList]; exact h
      rw [h3] at h1
      cases h1
      subst h2
      exact ⟨S1, Step.refl s2, .str _⟩
def rangeP (lo : Int) (n : Nat) : List PV := (List.range n).map fun (i : Nat) => .int (lo + (i : Int))
theorem itr_range {lo : Int} {n : Nat} : ItR K S H (rangeP lo n) (Itr lo n) := fun i S1 H1 s1 s2 => by
  refine ⟨fun hi => ?_, fun p e => ?_⟩
  · unfold rangeP at hi
    rw [List.length_map, List.length_range] at hi
    exact hi
  · unfold rangeP at e
    rw [List.getElem?_map] at e
    cases h : (List.range n)[i]? with
    | none => rw [h] at e; cases e
    | some c =>
      rw [h] at e
      cases e
      have hi : i < n := by
        have z := (List.getElem?_eq_some_iff.mp h).1
        rwa [List.length_range] at z
      rw [List.getElem?_range hi] at h
      cases h
      refine ⟨hi, fun v H2 y => ?_⟩
      obtain ⟨e1, h2⟩ := y
      subst e1
      subst h2
      exact ⟨S1, Step.refl s2, .int _⟩
def rangeC (lo c : Int) (n : Nat) : List PV := (List.range n).map fun (i : Nat) => .int (lo + (i : Int) * c)
theorem itr_rangeC {lo c : Int} {n : Nat} : ItR K S H (rangeC lo c n) (Itc lo c n) := fun i S1 H1 s1 s2 => by
  refine ⟨fun hi => ?_, fun p e => ?_⟩
  · unfold rangeC at hi
    rw [List.length_map, List.length_range] at hi
    exact hi
  · unfold rangeC at e
    rw [List.getElem?_map] at e
    cases h : (List.range n)[i]? with
    | none => rw [h] at e; cases e
    | some j =>
      rw [h] at e
      cases e
      have hi : i < n := by
        have z := (List.getElem?_eq_some_iff.mp h).1
        rwa [List.length_range] at z
      rw [List.getElem?_range hi] at h
      cases h
      refine ⟨hi, fun v H2 y => ?_⟩
      obtain ⟨e1, h2⟩ := y
      subst e1
      subst h2
      exact ⟨S1, Step.refl s2, .int _⟩
def enumP (i : Int) : List PV → List PV
  | [] => []
  | p :: ps => .tup [.int i, p] :: enumP (i + 1) ps
theorem enumP_get : ∀ (ps : List PV) (i : Int) (n : Nat), (enumP i ps)[n]? = (ps[n]?).map fun p => .tup [.int (i + n), p]
  | [], i, n => by simp [enumP]
  | p :: ps, i, 0 => by simp [enumP]
  | p :: ps, i, n + 1 => by
    simp only [enumP, List.getElem?_cons_succ]
    rw [enumP_get ps (i + 1) n]
    cases ps[n]? with
    | none => rfl
    | some q =>
      show some (PV.tup [.int (i + 1 + n), q]) = some (PV.tup [.int (i + ((n + 1 : Nat) : Int)), q])
      rw [show i + 1 + (n : Int) = i + ((n + 1 : Nat) : Int) by omega]
theorem enumP_length : ∀ (ps : List PV) (i : Int), (enumP i ps).length = ps.length
  | [], _ => rfl
  | p :: ps, i => by simp [enumP, enumP_length ps]
theorem itr_enum {a : Addr} {vs : List V} {ps : List PV} (s : Same S H) (h : S a = some (.lst vs)) (r : RepL K S ps vs) : ItR K S H (enumP 0 ps) (Ite K a) := fun i S1 H1 s1 s2 => by
  have hl : SqL K H1 a vs := .inl (.inl (s2 _ _ (s1 _ _ h)))
  refine ⟨fun hi => ⟨vs, hl, by rw [enumP_length] at hi; rw [← r.length]; exact hi⟩, fun p e => ?_⟩
  rw [enumP_get] at e
  cases e1 : ps[i]? with
  | none => rw [e1] at e; cases e
  | some q =>
    rw [e1] at e
    cases e
    obtain ⟨v, h1, h2⟩ := r.get e1
    refine ⟨⟨vs, v, hl, h1⟩, fun x H2 y => ?_⟩
    obtain ⟨T, x', rfl, hT, rfl, y⟩ := y
    have e2 := y vs hl
    rw [h1] at e2
    cases e2
    refine ⟨upd S1 T (.tup [.int (i : Nat), v]), Step.new1 s2 hT, .tup upd_same ?_⟩
    refine .cons ?_ (.cons ((h2.up s1).up (same_upd (Same.free s2 hT))) .nil)
    rw [Int.zero_add]
    exact .int _
theorem itr_zip {a b : Addr} {vs us : List V} {ps qs : List PV} (s : Same S H) (h : S a = some (.lst vs)) (r : RepL K S ps vs) (h' : S b = some (.lst us)) (r' : RepL K S qs us) : ItR K S H (List.zipWith (fun p q => .tup [p, q]) ps qs) (Itz K a b) := fun i S1 H1 s1 s2 => by
  have hl : SqL K H1 a vs := .inl (.inl (s2 _ _ (s1 _ _ h)))
  have hl' : SqL K H1 b us := .inl (.inl (s2 _ _ (s1 _ _ h')))
  refine ⟨fun hi => ⟨vs, us, hl, hl', ?_⟩, fun p e => ?_⟩
  · rw [List.length_zipWith, r.length, r'.length] at hi
    omega
  · rw [List.getElem?_zipWith] at e
    cases e1 : ps[i]? with
    | none => rw [e1] at e; cases e
    | some q =>
      cases e2 : qs[i]? with
      | none => rw [e1, e2] at e; cases e
      | some q' =>
        rw [e1, e2] at e
        cases e
        obtain ⟨v, h1, h2⟩ := r.get e1
        obtain ⟨u, h3, h4⟩ := r'.get e2
        refine ⟨⟨vs, us, v, u, hl, hl', h1, h3⟩, fun x H2 y => ?_⟩
        obtain ⟨T, x', y', rfl, hT, rfl, y1, y2⟩ := y
        have z1 := y1 vs hl
        rw [h1] at z1
        cases z1
        have z2 := y2 us hl'
        rw [h3] at z2
        cases z2
        exact ⟨upd S1 T (.tup [v, u]), Step.new1 s2 hT, .tup upd_same (.cons ((h2.up s1).up (same_upd (Same.free s2 hT))) (.cons ((h4.up s1).up (same_upd (Same.free s2 hT))) .nil))⟩
theorem itr_rev {a : Addr} {vs : List V} {ps : List PV} (s : Same S H) (h : S a = some (.lst vs)) (r : RepL K S ps vs) : ItR K S H ps.reverse (Itv K a vs.length) := fun i S1 H1 s1 s2 => by
  have hl : SqL K H1 a vs := .inl (.inl (s2 _ _ (s1 _ _ h)))
  refine ⟨fun hi => by rw [List.length_reverse, r.length] at hi; exact hi, fun p e => ?_⟩
  have hi : i < ps.reverse.length := (List.getElem?_eq_some_iff.mp e).1
  rw [List.length_reverse, r.length] at hi
  have e0 : ps[ps.length - 1 - i]? = some p := by
    rw [List.getElem?_reverse (by rw [r.length]; exact hi)] at e
    exact e
  obtain ⟨v, h1, h2⟩ := r.get e0
  rw [r.length] at h1
  refine ⟨⟨hi, vs, v, hl, h1⟩, fun x H2 y => ?_⟩
  obtain ⟨e1, y⟩ := y
  subst e1
  have e2 := y vs hl
  rw [h1] at e2
  cases e2
  exact ⟨S1, Step.refl s2, h2.up s1⟩
end
def seqOf : PV → Option (List PV)
  | .lst ps => some ps
  | .tup ps => some ps
  | .ktup ps => some ps
  | .str x => some (signs x)
  | _ => none
def iSeq (da : Den) : DenL := fun ρ => (da ρ).bind fun p ρ1 => opt (seqOf p) ρ1
def iR1 (dl : DenL) : DenL := fun ρ => (dl ρ).bind fun ps ρ1 => match ps with
  | [.int j] => if decide (-(2 ^ 62) ≤ j) && decide (j < 2 ^ 62) then .ok (rangeP 0 j.toNat) ρ1 else .bad
  | _ => .bad
def iR2 (dl : DenL) : DenL := fun ρ => (dl ρ).bind fun ps ρ1 => match ps with
  | [.int i, .int j] => if (decide (-(2 ^ 62) ≤ i) && decide (i < 2 ^ 62)) && (decide (-(2 ^ 62) ≤ j) && decide (j < 2 ^ 62)) then .ok (rangeP i (j - i).toNat) ρ1 else .bad
  | _ => .bad
def iEnu (dl : DenL) : DenL := fun ρ => (dl ρ).bind fun ps ρ1 => match ps with
  | [.lst qs] => .ok (enumP 0 qs) ρ1
  | _ => .bad
def iZp (dl : DenL) : DenL := fun ρ => (dl ρ).bind fun ps ρ1 => match ps with
  | [.lst qs, .lst rs] => .ok (List.zipWith (fun p q => .tup [p, q]) qs rs) ρ1
  | _ => .bad
def iRv (dl : DenL) : DenL := fun ρ => (dl ρ).bind fun ps ρ1 => match ps with
  | [.lst qs] => .ok qs.reverse ρ1
  | _ => .bad
/-- range(i, j, c) with a written step -/
def rgN (i j c : Int) : Option Nat := if c = 0 then none else if decide (c.natAbs < 1073741824) && Builtin.Range.small i j c then some (Builtin.Range.rangeSize i j c).toNat else none
def iR3 (dl : DenL) : DenL := fun ρ => (dl ρ).bind fun ps ρ1 => match ps with
  | [.int i, .int j, .int c] => if c = 2 ∨ c = -1 then (if decide (-(2 ^ 60) ≤ i) && decide (i < 2 ^ 60) && (decide (-(2 ^ 60) ≤ j) && decide (j < 2 ^ 60)) then .ok (rangeC i c (if c = 2 then ((j - i + 1) / 2).toNat else (i - j).toNat)) ρ1 else .bad) else .bad
  | _ => .bad
section
variable {X : Cx} {W : WX} {fr : Bool} {k : Nat} {pos p p2 tpos : Pos} {e a b c : Expr} {es elts : List Expr} {da : Den} {dl : DenL} {x : Str} {tg : Expr} {kk : Nat}
theorem di_seq (he : DE X W e da) : DI X W tg e (iSeq da) := by
  refine ⟨fun pins s σ H R I h => ?_⟩
  obtain ⟨H₀, S₀, M, S, ρ, ab, hp⟩ := h
  have h1 : canon X.K X.mg W (rV X.K) da σ H fun v H1 => ∃ (S1 : Hp) (ρ1 : Env) (q : PV) (ps : List PV), Abs X.K H₀ S₀ M S1 σ H1 ρ1 ∧ Rep X.K S1 q v ∧ seqOf q = some ps ∧ ∀ J, ItR X.K S1 H1 ps J → R J H1 :=
    XOk.bind (Rl' := rIt X.K) canon_ok ab hp fun q ρ1 v S1 H1 _ a1 _ r1 hp => by
      cases e1 : seqOf q with
      | none => rw [e1] at hp; exact hp.elim
      | some ps =>
        rw [e1] at hp
        exact ⟨S1, ρ1, q, ps, a1, r1, e1, fun J j => hp J S1 H1 a1 j⟩
  refine thn (he.run pins s σ H _ I h1) fun v s1 ⟨y, H1, I1, r1, S1, ρ1, q, ps, a1, rq, e1, hR⟩ => ?_
  cases q with
  | lst qs =>
    cases e1
    cases rq with
    | lst h2 h3 =>
      cases r1
      obtain ⟨its, rv, pl, hz⟩ := I1.list (.inl (.inl (a1.sub _ _ h2)))
      refine PySem.wpAny_pyIter_list pl.isList ?_
      refine ⟨s1.heap.objs.size, [s1.heap.objs.size], _, _, H1, rfl, I1.kept (t' := s1.toks) fun b o e => Heap.get?_push_of_some _ e, turn_list _ _, ⟨_, Heap.get?_push_size _ rfl, rfl, rfl⟩, fun b hb => ?_, hR _ (itr_list a1.sub h2 h3)⟩
      have e : b = s1.heap.objs.size := by simpa using hb
      subst e
      exact I1.fpOk (Nat.le_refl _) (I1.hok.fresh (Nat.le_refl _))
  | tup qs =>
    cases e1
    cases rq with
    | tup h2 h3 =>
      cases r1
      obtain ⟨its, rv, pl, hz⟩ := I1.tuple (.inl (.inl (a1.sub _ _ h2)))
      refine PySem.wpAny_pyIter_tuple (show s1.heap.IsTuple _ its.toArray from pl) ?_
      refine ⟨s1.heap.objs.size, [s1.heap.objs.size], _, _, H1, rfl, I1.kept (t' := s1.toks) fun b o e => Heap.get?_push_of_some _ e, turn_tuple _ _, ⟨_, Heap.get?_push_size _ rfl, rfl, rfl⟩, fun b hb => ?_, hR _ (itr_tup a1.sub (.inl (.inl h2)) h3)⟩
      have e : b = s1.heap.objs.size := by simpa using hb
      subst e
      exact I1.fpOk (Nat.le_refl _) (I1.hok.fresh (Nat.le_refl _))
  | ktup qs =>
    cases e1
    cases rq with
    | ktup h2 h3 =>
      cases r1
      obtain ⟨its, rv, pl, hz⟩ := I1.tuple (Same.tupK a1.sub h2)
      refine PySem.wpAny_pyIter_tuple (show s1.heap.IsTuple _ its.toArray from pl) ?_
      refine ⟨s1.heap.objs.size, [s1.heap.objs.size], _, _, H1, rfl, I1.kept (t' := s1.toks) fun b o e => Heap.get?_push_of_some _ e, turn_tuple _ _, ⟨_, Heap.get?_push_size _ rfl, rfl, rfl⟩, fun b hb => ?_, hR _ (itr_tup a1.sub h2 h3)⟩
      have e : b = s1.heap.objs.size := by simpa using hb
      subst e
      exact I1.fpOk (Nat.le_refl _) (I1.hok.fresh (Nat.le_refl _))
  | str z =>
    cases e1
    cases rq
    obtain ⟨t, rfl⟩ := r1
    cases ha : z.cps.all (· < 128)
    · exact wpAny_pyIter_wide ha (pi_one (tk := s1.toks) I1 _ (turn_str _ z t "str_iterator" (.inr rfl)) ⟨_, Heap.get?_push_size _ rfl, rfl, rfl⟩ (hR _ itr_str))
    · exact wpAny_pyIter_ascii ha (pi_one (tk := s1.toks) I1 _ (turn_str _ z t "str_ascii_iterator" (.inl rfl)) ⟨_, Heap.get?_push_size _ rfl, rfl, rfl⟩ (hR _ itr_str))
  | _ => cases e1
theorem di_r1 (B : Bi X.mg) (ha : DA X W [a] dl) (hg : Gl X "range" := by rfl) (hs : starEach [a] X.env = [(false, eval a X.env)] := by rfl) : DI X W tg (.Call (.Name "range" p) [a] [] pos) (iR1 dl) :=
  DI.of (pi_range1 hg B.range ha hs) fun H₀ S₀ M S σ H ρ Q ab hp => canon_ok.bind (Rl' := rIt X.K) ab hp fun ps ρ1 vs S1 H1 _ a1 _ r1 hp => by
    split at hp
    · split at hp
      · rename_i hz
        simp only [Bool.and_eq_true, decide_eq_true_eq] at hz
        cases r1 with
        | cons r2 r3 =>
          cases r3; cases r2
          exact ⟨_, rfl, hz.1, hz.2, hp _ S1 H1 a1 itr_range⟩
      · exact hp.elim
    · exact hp.elim
theorem di_r2 (B : Bi X.mg) (ha : DA X W [a, b] dl) (hg : Gl X "range" := by rfl) (hs : starEach [a, b] X.env = [(false, eval a X.env), (false, eval b X.env)] := by rfl) (hs2 : starEach [b] X.env = [(false, eval b X.env)] := by rfl) : DI X W tg (.Call (.Name "range" p) [a, b] [] pos) (iR2 dl) :=
  DI.of (pi_range2 hg B.range ha hs hs2) fun H₀ S₀ M S σ H ρ Q ab hp => canon_ok.bind (Rl' := rIt X.K) ab hp fun ps ρ1 vs S1 H1 _ a1 _ r1 hp => by
    split at hp
    · split at hp
      · rename_i hz
        simp only [Bool.and_eq_true, decide_eq_true_eq] at hz
        cases r1 with
        | cons r2 r3 =>
          cases r3 with
          | cons r4 r5 =>
            cases r5; cases r2; cases r4
            exact ⟨_, _, rfl, ⟨hz.1.1, hz.1.2, hz.2.1, hz.2.2⟩, hp _ S1 H1 a1 itr_range⟩
      · exact hp.elim
    · exact hp.elim
theorem di_enum (B : Bi X.mg) (ha : DA X W [e] dl) (hg : Gl X "enumerate" := by rfl) (hs : starEach [e] X.env = [(false, eval e X.env)] := by rfl) : DI X W (.Tuple elts kk tpos) (.Call (.Name "enumerate" p) [e] [] pos) (iEnu dl) :=
  DI.of (pi_enum hg B.enumerate ha hs) fun H₀ S₀ M S σ H ρ Q ab hp => canon_ok.bind (Rl' := rIt X.K) ab hp fun ps ρ1 vs S1 H1 _ a1 _ r1 hp => by
    split at hp
    · cases r1 with
      | cons r2 r3 =>
        cases r3
        cases r2 with
        | lst h1 h2 => exact ⟨_, _, rfl, .inl (.inl (a1.sub _ _ h1)), hp _ S1 H1 a1 (itr_enum a1.sub h1 h2)⟩
    · exact hp.elim
theorem di_zip (B : Bi X.mg) (ha : DA X W [e, a] dl) (hg : Gl X "zip" := by rfl) (hs : starEach [e, a] X.env = (false, eval e X.env) :: starEach [a] X.env := by rfl) (hpl : (backTo pos (starEach [a] X.env)).any (·.1) = false := by rfl) : DI X W (.Tuple elts kk tpos) (.Call (.Name "zip" p) [e, a] [] pos) (iZp dl) :=
  DI.of (pi_zip hg B.zip ha hs hpl) fun H₀ S₀ M S σ H ρ Q ab hp => canon_ok.bind (Rl' := rIt X.K) ab hp fun ps ρ1 vs S1 H1 _ a1 _ r1 hp => by
    split at hp
    · cases r1 with
      | cons r2 r3 =>
        cases r3 with
        | cons r4 r5 =>
          cases r5
          cases r2 with
          | lst h1 h2 =>
            cases r4 with
            | lst h3 h4 => exact ⟨_, _, _, _, rfl, .inl (.inl (a1.sub _ _ h1)), .inl (.inl (a1.sub _ _ h3)), hp _ S1 H1 a1 (itr_zip a1.sub h1 h2 h3 h4)⟩
    · exact hp.elim
theorem di_rev (B : Bi X.mg) (ha : DA X W [e] dl) (hg : Gl X "reversed" := by rfl) (hs : starEach [e] X.env = [(false, eval e X.env)] := by rfl) : DI X W tg (.Call (.Name "reversed" p) [e] [] pos) (iRv dl) :=
  DI.of (pi_reversed hg B.reversed ha hs) fun H₀ S₀ M S σ H ρ Q ab hp => canon_ok.bind (Rl' := rIt X.K) ab hp fun ps ρ1 vs S1 H1 _ a1 _ r1 hp => by
    split at hp
    · cases r1 with
      | cons r2 r3 =>
        cases r3
        cases r2 with
        | lst h1 h2 => exact ⟨_, _, rfl, .inl (.inl (a1.sub _ _ h1)), hp _ S1 H1 a1 (itr_rev a1.sub h1 h2)⟩
    · exact hp.elim

/-! ### targets -/
structure DG (X : Cx) (tg : Expr) (g : TG) (dg : DenG) : Prop where
  pg : PG X tg g
  ok : GOk X.K g dg
  mono : GMono g
structure DGs (X : Cx) (tgs : List Expr) (g : TGs) (dg : List PV → Env → Option Env) (n : Nat) : Prop where
  pg : PGs X tgs g
  ok : GsOk X.K g dg
  mono : GsMono g
  len : ∀ ps ρ ρ', dg ps ρ = some ρ' → ps.length = n
theorem dg_name {W : WX} (c : Ctx X W k) (i : Nat) (hi : X.N[i]? = some x := by rfl) (hx : Loc X.env.scope x := by first | exact Or.inl rfl | exact Or.inr rfl) (hf : X.fn x = true ∨ X.env.scope.names.lookup x = some .local := by first | exact .inl rfl | exact .inr rfl) : DG X (.Name x pos) (L2.gName i) (gName i) :=
  ⟨pg_name c.nd hi hx hf, go_name, gm_name⟩
theorem dgs_nil : DGs X [] L2.gNil gsNil 0 := ⟨pgs_nil, gso_nil, gms_nil, gsNil_len⟩
theorem dgs_cons {g : TG} {dg : DenG} {gs : TGs} {dgs : List PV → Env → Option Env} {n : Nat} (h1 : DG X e g dg) (h2 : DGs X es gs dgs n) (hs : (assignEach (e :: es) X.env).map (·.2) = assign e X.env :: (assignEach es X.env).map (·.2) := by rfl) : DGs X (e :: es) (L2.gCons g gs) (gsCons dg dgs) (n + 1) :=
  ⟨pgs_cons h1.pg h2.pg hs, gso_cons h1.ok h2.ok, gms_cons h1.mono h2.mono, gsCons_len h2.len⟩
theorem dg_tup {W : WX} (c : Ctx X W k) {gs : TGs} {dgs : List PV → Env → Option Env} {n : Nat} (h : DGs X es gs dgs n) (hn : (assignEach es X.env).length = n := by rfl) (hst : (assignEach es X.env).findIdx? (·.1) = none := by rfl) : DG X (.Tuple es kk pos) (L2.gTup X.K n gs) (gTup dgs) :=
  ⟨pg_tup c.calm h.pg hn hst, go_tup h.ok h.len, gm_tup h.mono⟩

/-! ### comprehensions -/
structure LG (K : PySem.W.Frag) (own : List Nat) (g : TG) (dg : DenG) : Prop where
  ok : GOk K g dg
  mono : GMono g
  w : TgW own g
structure LGs (K : PySem.W.Frag) (own : List Nat) (g : TGs) (dg : List PV → Env → Option Env) (n : Nat) : Prop where
  ok : GsOk K g dg
  mono : GsMono g
  len : ∀ ps ρ ρ', dg ps ρ = some ρ' → ps.length = n
  w : TgsW own g
theorem lg_name {K : PySem.W.Frag} {own : List Nat} (i : Nat) (h : i ∈ own := by decide) : LG K own (L2.gName i) (gName i) := ⟨go_name, gm_name, tw_name h⟩
theorem lgs_nil {K : PySem.W.Frag} {own : List Nat} : LGs K own L2.gNil gsNil 0 := ⟨gso_nil, gms_nil, gsNil_len, tws_nil⟩
theorem lgs_cons {K : PySem.W.Frag} {own : List Nat} {gs : TGs} {dgs : List PV → Env → Option Env} {n : Nat} (i : Nat) (h2 : LGs K own gs dgs n) (h : i ∈ own := by decide) : LGs K own (L2.gCons (L2.gName i) gs) (gsCons (gName i) dgs) (n + 1) :=
  ⟨gso_cons go_name h2.ok, gms_cons gm_name h2.mono, gsCons_len h2.len, tws_name h h2.w⟩
theorem lg_tup {K : PySem.W.Frag} {own : List Nat} {gs : TGs} {dgs : List PV → Env → Option Env} {n : Nat} (h : LGs K own gs dgs n) : LG K own (L2.gTup K n gs) (gTup dgs) := ⟨go_tup h.ok h.len, gm_tup h.mono, tw_tup h.w⟩
def bYes : DenB := fun ρ => .ok true ρ
theorem dts_nil : DTs X W [] bYes := DTs.of pts_nil fun H₀ S₀ M S σ H ρ Q ab hp => hp true S H ab rfl
theorem dts_one {dt : DenB} (h : DT X W e dt) : DTs X W [e] dt := DTs.of (pts_one h) canon_ok
theorem df_lc {elt tg iter : Expr} {ifs : List Expr} {scope : Scope} {g : TG} {dg : DenG} {dt : DenB} {de : Den} (own : List (Str × Nat)) (c : Ctx X W k) (hi : DI X W tg iter dl) (hl : LG X.K (own.map (·.2)) g dg)
    (hg : ∀ (s : Shared) (H : Hp) (C : Addr) (cl : List (Str × Addr)) (fp : List Addr), DG (X.blk s H scope (PySem.compEnvC scope cl C X.env) fp) tg g dg) (ht : ∀ (s : Shared) (H : Hp) (C : Addr) (cl : List (Str × Addr)) (fp : List Addr), DTs (X.blk s H scope (PySem.compEnvC scope cl C X.env) fp) (fun _ _ _ _ => False) ifs dt)
    (he : ∀ (s : Shared) (H : Hp) (C : Addr) (cl : List (Str × Addr)) (fp : List Addr), DE (X.blk s H scope (PySem.compEnvC scope cl C X.env) fp) (fun _ _ _ _ => False) elt de) (ok : BlkOk X.N X.env.scope scope own := by exact blkOk_by (by decide +kernel)) (hs : ∀ x, foldedSetIterable iter X.env x = pure x := by intro _; rfl) :
    DF X W (.ListComp elt [⟨tg, iter, ifs, 0⟩] scope pos) (dLc (own.map (·.2)) dl dg dt de) :=
  DF.of (pe_lc c.calm c.nd hi ok (fun s H C cl fp => (hg s H C cl fp).pg) ht he hs) (fo_lc canon_ok hl.ok hl.w hl.mono canon_ok canon_ok)

/-! ### statements -/
variable {st : Stmt} {sts rest s2 : List Stmt} {d1 d2 : DenS} {du : DenB} {db : Den}
theorem dss_nil : DSs X W fr [] sNx := DSs.of pss_nil so_nx
theorem dss_cons (h1 : DS X W fr st d1) (h2 : DSs X W fr rest d2) : DSs X W fr (st :: rest) (sSeq d1 d2) := DSs.of (pss_cons h1 h2) (so_seq canonS_ok canonS_ok)
theorem dss_one (h1 : DS X W fr st d1) : DSs X W fr [st] d1 := pss_one h1
theorem ds_pass : DS X W fr (.Pass pos) sNx := DS.of ps_pass so_nx
theorem ds_brk : DS X W fr (.Break pos) sBk := DS.of ps_break so_bk
theorem ds_cont : DS X W fr (.Continue pos) sCt := DS.of ps_continue so_ct
theorem ds_expr (h : DE X W e da) (hs : swapsWith e none pos.line X.env = pure false := by rfl) : DS X W fr (.Expr e pos) (sExpr da) := DS.of (ps_expr h hs) (so_expr canon_ok)
theorem ds_ret (h : DE X W e da) : DS X W false (.Return (some e) pos) (sRet da) := DS.of (ps_ret h) (so_ret canon_ok)
theorem ds_retF (h : DF X W e da) : DS X W true (.Return (some e) pos) (sRet da) := DS.of (ps_ret h) (so_retF canon_ok)
theorem ds_retO (i : Nat) (h : PE X (.Name x p) (tVar i)) : DS X W true (.Return (some (.Name x p)) pos) (sRetO i) := DS.of (ps_ret h) so_retO
theorem ds_retN : DS X W false (.Return none pos) sRetN := DS.of ps_retN so_retN
theorem ds_if (hc : DT X W e du) (h1 : DSs X W fr sts d1) (h2 : DSs X W fr s2 d2) : DS X W fr (.If e sts s2 pos) (sIf du d1 d2) := DS.of (ps_if hc h1 h2) (so_if canon_ok canonS_ok canonS_ok)
theorem ds_set (c : Ctx X W k) (i : Nat) (h : DE X W e da) (hi : X.N[i]? = some x := by rfl) (hx : Loc X.env.scope x := by first | exact Or.inl rfl | exact Or.inr rfl) (hs : swapsWith e (some (.Name x p)) pos.line X.env = pure false := by rfl) (hf : X.fn x = true ∨ X.env.scope.names.lookup x = some .local := by first | exact .inl rfl | exact .inr rfl) :
    DS X W fr (.Assign [.Name x p] e pos) (sSet i da) := DS.of (ps_set c.nd hi hx h hs hf) (so_set canon_ok)
theorem ds_setF (c : Ctx X W k) (i : Nat) (h : DF X W e da) (hi : X.N[i]? = some x := by rfl) (hx : Loc X.env.scope x := by first | exact Or.inl rfl | exact Or.inr rfl) (hs : swapsWith e (some (.Name x p)) pos.line X.env = pure false := by rfl) (hf : X.fn x = true ∨ X.env.scope.names.lookup x = some .local := by first | exact .inl rfl | exact .inr rfl) :
    DS X W fr (.Assign [.Name x p] e pos) (sSetF i da) := DS.of (ps_set c.nd hi hx h hs hf) (so_setF canon_ok)
/-- y = [..], y a plain local -/
theorem ds_setLcF {elt tg iter : Expr} {ifs : List Expr} {scope : Scope} {g : TG} {dg : DenG} {dt : DenB} {de : Den} (i : Nat) (own : List (Str × Nat)) (c : Ctx X W k) (hi : DI X W tg iter dl) (hl : LG X.K (own.map (·.2)) g dg)
    (hg : ∀ (s : Shared) (H : Hp) (C : Addr) (cl : List (Str × Addr)) (fp : List Addr), DG (X.blk s H scope (PySem.compEnvC scope cl C X.env) fp) tg g dg) (ht : ∀ (s : Shared) (H : Hp) (C : Addr) (cl : List (Str × Addr)) (fp : List Addr), DTs (X.blk s H scope (PySem.compEnvC scope cl C X.env) fp) (fun _ _ _ _ => False) ifs dt)
    (he : ∀ (s : Shared) (H : Hp) (C : Addr) (cl : List (Str × Addr)) (fp : List Addr), DE (X.blk s H scope (PySem.compEnvC scope cl C X.env) fp) (fun _ _ _ _ => False) elt de) (hy : X.N[i]? = some x := by rfl) (hyl : X.env.scope.names.lookup x = some .local := by rfl)
    (hsw : swapsWith (.ListComp elt [⟨tg, iter, ifs, 0⟩] scope p2) (some (.Name x p)) pos.line X.env = pure true := by exact sw_true rfl rfl rfl (by decide +kernel)) (ok : BlkOk X.N X.env.scope scope own := by exact blkOk_by (by decide +kernel)) (hs : ∀ x, foldedSetIterable iter X.env x = pure x := by intro _; rfl) :
    DS X W fr (.Assign [.Name x p] (.ListComp elt [⟨tg, iter, ifs, 0⟩] scope p2) pos) (sSetF i (dLc (own.map (·.2)) dl dg dt de)) :=
  DS.of (ps_setLc c.calm c.nd hy hyl hsw hi ok (fun s H C cl fp => (hg s H C cl fp).pg) ht he hs) (so_setF (fo_lc canon_ok hl.ok hl.w hl.mono canon_ok canon_ok))
theorem ds_setLc {elt tg iter : Expr} {ifs : List Expr} {scope : Scope} {g : TG} {dg : DenG} {dt : DenB} {de : Den} (i : Nat) (own : List (Str × Nat)) (c : Ctx X W k) (hi : DI X W tg iter dl) (hl : LG X.K (own.map (·.2)) g dg)
    (hg : ∀ (s : Shared) (H : Hp) (C : Addr) (cl : List (Str × Addr)) (fp : List Addr), DG (X.blk s H scope (PySem.compEnvC scope cl C X.env) fp) tg g dg) (ht : ∀ (s : Shared) (H : Hp) (C : Addr) (cl : List (Str × Addr)) (fp : List Addr), DTs (X.blk s H scope (PySem.compEnvC scope cl C X.env) fp) (fun _ _ _ _ => False) ifs dt)
    (he : ∀ (s : Shared) (H : Hp) (C : Addr) (cl : List (Str × Addr)) (fp : List Addr), DE (X.blk s H scope (PySem.compEnvC scope cl C X.env) fp) (fun _ _ _ _ => False) elt de) (hy : X.N[i]? = some x := by rfl) (hyl : X.env.scope.names.lookup x = some .local := by rfl)
    (hsw : swapsWith (.ListComp elt [⟨tg, iter, ifs, 0⟩] scope p2) (some (.Name x p)) pos.line X.env = pure true := by exact sw_true rfl rfl rfl (by decide +kernel)) (ok : BlkOk X.N X.env.scope scope own := by exact blkOk_by (by decide +kernel)) (hs : ∀ x, foldedSetIterable iter X.env x = pure x := by intro _; rfl) :
    DS X W fr (.Assign [.Name x p] (.ListComp elt [⟨tg, iter, ifs, 0⟩] scope p2) pos) (sSet i (dLc (own.map (·.2)) dl dg dt de)) :=
  DS.of (ps_setLc c.calm c.nd hy hyl hsw hi ok (fun s H C cl fp => (hg s H C cl fp).pg) ht he hs) (so_set (fo_lc canon_ok hl.ok hl.w hl.mono canon_ok canon_ok).shared)
theorem ds_asg {g : TG} {dg : DenG} (h : DE X W e da) (hg : DG X tg g dg) (hs : swapsWithSole [tg] e pos.line X.env = pure false := by rfl) (hw : swappedStores [tg] e X.env = pure none := by rfl) (h1 : (assignEach [tg] X.env).map (·.2) = [assign tg X.env] := by rfl) :
    DS X W fr (.Assign [tg] e pos) (sAsg da dg) := DS.of (ps_asg h hg.pg hs hw h1) (so_asg canon_ok hg.ok)
/-- x[a] = e, x an owned list in a slot -/
theorem ds_sub (i : Nat) (ho : PE X (.Name x p) (tVar i)) (hi : DE X W a db) (h : DE X W e da)
    (ha : ∀ v, assign (.Subscript (.Name x p) a p2) X.env v = (do
      let ov ← holding [v] (eval (.Name x p) X.env)
      let iv ← holding [v, ov] (eval a X.env)
      standAt p2
      holding [v, ov, iv] (setItem ov iv v)
      release [v, ov, iv] []) := by intro _; rfl) (hs : swapsWithSole [.Subscript (.Name x p) a p2] e pos.line X.env = pure false := by rfl) (hw : swappedStores [.Subscript (.Name x p) a p2] e X.env = pure none := by rfl) (h1 : (assignEach [.Subscript (.Name x p) a p2] X.env).map (·.2) = [assign (.Subscript (.Name x p) a p2) X.env] := by rfl) :
    DS X W fr (.Assign [.Subscript (.Name x p) a p2] e pos) (sSub gSetL i db da) := DS.of (ps_asg h (pg_sub ho hi set_list ha) hs hw h1) (so_sub canon_ok canon_ok st_list)
def gAugAdd : PV → PV → Option PV
  | .int i, .int j => some (.int (i + j))
  | .str x, .str y => if x.length + y.length ≤ sizeLine then some (.str (x ++ y)) else none
  | _, _ => none
def rAugAdd : R2 := fun x y H Q => (∃ i j, x = .int i ∧ y = .int j ∧ Q (.int (i + j)) H) ∨ (∃ i j, x = .str i ∧ y = .str j ∧ i.length + j.length ≤ sizeLine ∧ Q (.str (i ++ j)) H)
theorem v2_augAdd {K : PySem.W.Frag} : V2 K rAugAdd gAugAdd := by
  intro S H x y p q z Q s rx ry e k
  unfold gAugAdd at e
  split at e
  · cases rx; cases ry; cases e
    exact .inl ⟨_, _, rfl, rfl, k _ S H (Step.refl s) (.int _)⟩
  · split at e
    · rename_i hz
      cases rx; cases ry; cases e
      exact .inr ⟨_, _, rfl, rfl, hz, k _ S H (Step.refl s) (.str _)⟩
    · cases e
  · cases e
theorem augAdd_sc : ∀ p q z, gAugAdd p q = some z → z.sc = true := by
  intro p q z e
  unfold gAugAdd at e
  split at e
  · cases e; rfl
  · split at e
    · cases e; rfl
    · cases e
  · cases e
theorem gSub_sc : ∀ p q z, gSub p q = some z → z.sc = true := by
  intro p q z e
  unfold gSub at e
  split at e
  · cases e; rfl
  · cases e
theorem pip_or {op : Operator} {r r' : TIp} (h : PIp X op r) (h' : PIp X op r') : PIp X op (fun x y H Q => r x y H Q ∨ r' x y H Q) := by
  intro pins s σ H x y v u Q I rx ry q
  rcases q with q | q
  · exact h pins s σ H x y v u Q I rx ry q
  · exact h' pins s σ H x y v u Q I rx ry q
theorem pip_add : PIp X .Add rAugAdd := pip_or (fun pins s σ H x y v u Q I rx ry q => iop_add pins s σ H x y v u Q I rx ry q) fun pins s σ H x y v u Q I rx ry q => iop_add_str pins s σ H x y v u Q I rx ry q
theorem ds_augAdd (c : Ctx X W k) (i : Nat) (h : DE X W e da) (hi : X.N[i]? = some x := by rfl) (hx : Loc X.env.scope x := by first | exact Or.inl rfl | exact Or.inr rfl) (hf : X.fn x = true ∨ X.env.scope.names.lookup x = some .local := by first | exact .inl rfl | exact .inr rfl) :
    DS X W fr (.AugAssign (.Name x p) .Add e pos) (sAug i gAugAdd da) := DS.of (ps_aug c.nd hi hx h pip_add hf) (so_aug canon_ok v2_augAdd augAdd_sc)
theorem ds_augSub (c : Ctx X W k) (i : Nat) (h : DE X W e da) (hi : X.N[i]? = some x := by rfl) (hx : Loc X.env.scope x := by first | exact Or.inl rfl | exact Or.inr rfl) (hf : X.fn x = true ∨ X.env.scope.names.lookup x = some .local := by first | exact .inl rfl | exact .inr rfl) :
    DS X W fr (.AugAssign (.Name x p) .Sub e pos) (sAug i gSub da) := DS.of (ps_aug c.nd hi hx h (fun pins s σ H x y v u Q I rx ry q => iop_sub pins s σ H x y v u Q I rx ry q) hf) (so_aug canon_ok v2_sub gSub_sc)
/-- what lets out what is raised -/
abbrev Po (X : Cx) : Prop := PassesOwn (model X.prog X.w) X.A X.env X.xe
theorem ds_for {g : TG} {dg : DenG} (hp : Po X) (c : Ctx X W k) (hi : DI X W tg e dl) (hg : DG X tg g dg) (hb : DSs X W fr sts d1) (hs : ∀ x, foldedSetIterable e X.env x = pure x := by intro _; rfl) : DS X W fr (.For tg e sts [] pos) (sFor dl dg d1) :=
  DS.of (ps_for hp c.calm hi hg.pg hb hs) (so_for canon_ok hg.ok canonS_ok)
theorem ds_while (μ : Env → Nat) (hp : Po X) (hc : DT X W e du) (hb : DSs X W fr sts d1) : DS X W fr (.While e sts [] pos) (sWhile μ du d1) :=
  DS.of (ps_while hp hc hb) (so_while canon_ok canonS_ok)
end
/-- THE RULE for a def, over pieces of syntax -/
theorem fd_ok {P : Program} {w : World} {K : PySem.W.Frag} {mg : Str → Option Value} {base : Heap} {x qual : Str} {st : Stmt} {f : Addr} {fd : FuncData} {N ps : List Str} {k : Nat} {io fr : Bool} {d : DenS} (F : Fun K x qual st f fd) (hm : mg x = some (.ref f)) (S : FnScope N ps (defScope st))
    (hb : Binds K fd ps []) (hl : ps.length ≤ N.length)
    (hbody : ∀ (cdv : Value) (A : Around) (outer : List PySem.Env) (s : Shared) (H : Hp) (E : XK), Ctx (cxOf (L2.CX P w) P w K mg base N qual (defScope st) f cdv A outer s H E) (fun cls dd _ H => E cls dd H) k → Po (cxOf (L2.CX P w) P w K mg base N qual (defScope st) f cdv A outer s H E) →
      DSs (cxOf (L2.CX P w) P w K mg base N qual (defScope st) f cdv A outer s H E) (fun cls dd _ H => E cls dd H) fr (defBody st) d) :
    Fd P w K mg base x (k + 1) io fr ps.length (runD io fr ps.length N.length d) := by
  refine ⟨⟨f, fd, ps, fn_ok F S hl fun cdv A outer s H E hr => ⟨_, hbody cdv A outer s H E ⟨rfl, S.nd, hr, takes_of rfl rfl rfl rfl⟩ (passes_of rfl), canonS_ok⟩, hm, F.kp, hb⟩, fun qs h => ?_⟩
  unfold runD at h
  by_cases e : qs.length = ps.length
  · exact e
  · rw [if_neg e] at h
    exact absurd rfl h
theorem Fd.eq {P : Program} {w : World} {K : PySem.W.Frag} {mg : Str → Option Value} {base : Heap} {x : Str} {k n : Nat} {io fr : Bool} {F G : List PV → FR} (h : Fd P w K mg base x k io fr n F) (e : ∀ ps, G ps ≠ .bad → F ps = G ps) : Fd P w K mg base x k io fr n G := by
  obtain ⟨f, fd, ps, h1, h2, h3, h4⟩ := h.ex
  exact ⟨⟨f, fd, ps, fn_eq h1 e, h2, h3, h4⟩, fun qs hq => h.len qs (by rw [e qs hq]; exact hq)⟩
end PL

set_option Elab.async false
set_option linter.all false
set_option maxRecDepth 100000
set_option maxHeartbeats 4000000
namespace PL
open PySem PySem.Spec L2
open PyProof.Rows hiding St
set_option autoImplicit false

/-! ### try with several clauses 'except x as n' that share the name n -/
/-- what stands behind a clause: the name's slot is empty -/
def gone (i : Nat) (D : Ends) : Ends := ⟨fun τ G => D.nx (τ.set i none) G, D.rt, fun τ G => D.bk (τ.set i none) G, fun τ G => D.ct (τ.set i none) G⟩
/-- a clause: its class, what its suite is worth -/
abbrev Clause := Value × (Addr → Value → Option Addr → TS)
def wCl (K : PySem.W.Frag) (out : WX) (D : Ends) (i : Nat) : List Clause → WX
  | [] => out
  | (c, ts) :: more => fun cls d τ G => ∃ hit, PySem.W.exmOne K cls c = some hit ∧
      (hit = true → ∀ a, G a = none → ts a cls d (gone i D) (τ.set i (some (.ref a))) G) ∧ (hit = false → wCl K out D i more cls d τ G)
inductive Clauses (X : Cx) (n : Str) : List ExceptHandler → List Clause → Prop
  | nil : Clauses X n [] []
  | cons {y : Str} {c : Value} {ts : Addr → Value → Option Addr → TS} {b : Stmt} {bs : List Stmt} {q q' : Pos} {hs : List ExceptHandler} {cl : List Clause} : Names X y c →
      (∀ (a : Addr) (ob : Obj) (cls : Value) (d : Option Addr) (pn : List (Addr × Obj)), Zc cls d ob → (∃ vs, ob.data = .fields vs) → PSs (X.suite a ((a, ob) :: pn)) (b :: bs) (ts a cls d)) →
      Clauses X n hs cl → Clauses X n (.ExceptHandler (some (.Name y q)) (some n) (b :: bs) q' :: hs) ((c, ts) :: cl)
section
variable {X : Cx} {n : Str} {i : Nat} {out : WX} {D : Ends} {pins : List (Addr × Obj)} {a : Addr} {B : Heap} {cls : Value} {d : Option Addr} {τ : L2.St} {G : Hp} {sI s' : Shared}
/-- where a caught exception stands: what its clauses lean on -/
structure Caught (X : Cx) (pins : List (Addr × Obj)) (a : Addr) (B : Heap) (cls : Value) (d : Option Addr) (τ : L2.St) (G : Hp) (sI s' : Shared) : Prop where
  inv : Inv X pins τ G sI
  ground : ∀ b o, sI.heap.get? b = some o → b ∉ frs X.stack → B.get? b = some o
  up : sI.heap.UpToSlots s'.heap
  na : G a = none
  os : s'.os = sI.os
  bare : AllBare s'.gens
theorem Caught.suite (k : Caught X pins a B cls d τ G sI s') (hstk : X.stack = X.env :: X.outer) (hfr : X.env.frame = some X.env.locals) {g : Heap} (fly : HandSPX.FlyingZ B (X.env :: X.outer) a (Zc cls d) g) (u : s'.heap.UpToSlots g) :
    ∃ ob, g.get? a = some ob ∧ Zc cls d ob ∧ (∃ vs, ob.data = .fields vs) ∧ Inv X pins τ G { s' with heap := g } ∧ Inv (X.suite a ((a, ob) :: (X.pn ++ pins))) [] τ G { s' with heap := g } := by
  have J : Inv X pins τ G { s' with heap := g } := k.inv.landed (s' := { s' with heap := g }) k.ground fly.1 (k.up.trans u) k.os k.bare
  obtain ⟨ob, vs, e1, e2, e3⟩ := fly.there
  have far : a ∉ frs (X.env :: X.outer) := fun m => by
    obtain ⟨_, o2, z1, z2⟩ := fly.2.2.1.mem m
    rw [e1] at z1
    cases z1
    exact z2 _ e3
  refine ⟨ob, e1, e2, ⟨vs, e3⟩, J, J.suite e1 e3 k.na (fun z => far ?_) fun m => far ?_⟩
  · exact List.mem_filterMap.mpr ⟨X.env, List.mem_cons_self, by rw [hfr, z]⟩
  · obtain ⟨env, m1, m2⟩ := List.mem_filterMap.mp m
    exact List.mem_filterMap.mpr ⟨env, List.mem_cons_of_mem _ m1, m2⟩
theorem clauses_run (hN : X.N.Nodup) (hi : X.N[i]? = some n) (hln : X.env.kindOf n = some .local) (hstk : X.stack = X.env :: X.outer) (hfr : X.env.frame = some X.env.locals) (tk : Takes X out)
    (k : Caught X pins a B cls d τ G sI s') {g : Heap} (fly : HandSPX.FlyingZ B (X.env :: X.outer) a (Zc cls d) g) (u : s'.heap.UpToSlots g) {hs : List ExceptHandler} {cl : List Clause} (h : Clauses X n hs cl) :
    wCl X.K out D i cl cls d τ G → wpAny (model X.prog X.w) X.A (handleBy (.ref a) X.env hs) (SP X pins D) X.xe { s' with heap := g } := by
  obtain ⟨ob, e1, e2, e3, J, JS⟩ := k.suite hstk hfr fly u
  induction h with
  | nil =>
    intro w
    refine wpAny_handleBy_nil ?_
    obtain ⟨_, _, _, o1, flds, T, _, _, f1, _, f2, f3, _⟩ := id fly
    unfold PySem.passOn
    refine wpAny_bind (PySem.wpAny_field f1 f2 f3 ?_)
    have nn : ¬ ((Value.ref T == Value.none) = true) := by simp
    rw [if_neg nn]
    have again : wpAny (model X.prog X.w) X.A (setFlight (.ref a) X.env.frame) (fun _ s4 => wpAny (model X.prog X.w) X.A (throw (.ref a) : Sem Flow) (SP X pins D) X.xe s4) X.xe { s' with heap := g } := by
      rw [hfr]
      refine HandSPX.setFlight_upZ fly fun g2 held u2 => wpAny_throw (tk _ _ ?_)
      refine ⟨a, B, sI, pins, τ, G, cls, d, rfl, k.inv, k.ground, (k.up.trans u).trans u2, .inr (.inr ?_), k.na, k.os, k.bare, w⟩
      rw [hstk]
      exact held
    first
      | exact wpAny_bind (wpAny_pure (wpAny_bind again))
      | exact wpAny_bind again
  | @cons y c ts b bs q q' more cl' names suite _ ih =>
    rintro ⟨hit, exm, yes, no⟩
    refine wpAny_handleBy_cons (codeAny_handlers_test ?_) (by intro z; cases z)
    have ty : PySem.W.Looks (model X.prog X.w) g (typeOf (.ref a)) cls := fun A Q E s kk qq => PySem.wpAny_typeOf_ref (kk _ _ e1) (by rw [e2.1]; exact qq)
    have look := PySem.W.exm_one (M := model X.prog X.w) J.kIn ty exm
    have named : ∀ {Q : Value → Shared → Prop} {E : Value → Shared → Prop}, Q c { s' with heap := g } → wpAny (model X.prog X.w) (X.A.mark (some (.ref a))) (eval (.Name y q) X.env) Q E { s' with heap := g } := fun {Q E} qq => by
      obtain ⟨g1, g2, g3⟩ := names
      rcases g3 with g3 | ⟨g3, g4, g5⟩
      · exact ld_glob (X := X.suite a ((a, ob) :: (X.pn ++ pins))) JS g1 g3 qq g2
      · exact ld_blt (X := X.suite a ((a, ob) :: (X.pn ++ pins))) JS g1 g3 g4 qq g5 g2
    refine named (look.here ?_)
    cases hit with
    | false => exact ih (no rfl)
    | true =>
      refine codeAny_handlers_suite_as (HandSPX.lands_againZ fly fun g2 fly2 u2 => ?_)
      obtain ⟨ob2, _, z2, z3, _, JS2⟩ := k.suite hstk hfr fly2 (u.trans u2)
      refine store_ok (X := X.suite a ((a, ob2) :: (X.pn ++ pins))) (v := .ref a) JS2 hN hi (.inl hln) rfl (fun s5 J5 => ?_) (.inr hln)
      have body := (suite a ob2 cls d (X.pn ++ pins) z2 z3).run [] s5 _ G _ J5 (yes rfl a k.na)
      refine wpAny_mono body (fun f s6 sp => ?_) fun _ _ z => z.elim
      have leave : ∀ {τ6 : L2.St} {G6 : Hp} {Q : Shared → Prop}, Inv (X.suite a ((a, ob2) :: (X.pn ++ pins))) [] τ6 G6 s6 → (∀ s7, Inv X pins (τ6.set i none) G6 s7 → Q s7) →
          wpAny (model X.prog X.w) X.A (do bindName X.env n .none; unbindBehindTheSuite X.env n q') (fun _ s7 => Q s7) X.xe s6 := fun J6 hq => gone_ok (J6.unsuite k.inv.ok) hN hi hln hq
      match f, sp with
      | .next, ⟨_, _, J6, q6⟩ => exact leave J6 fun s7 J7 => ⟨_, _, J7, q6⟩
      | .brk, ⟨_, _, J6, q6⟩ => exact leave J6 fun s7 J7 => ⟨_, _, J7, q6⟩
      | .cont, ⟨_, _, J6, q6⟩ => exact leave J6 fun s7 J7 => ⟨_, _, J7, q6⟩
      | .ret v, ⟨_, _, _, J6, r6, q6⟩ => exact leave J6 fun s7 J7 => ⟨_, _, _, J7, r6, q6⟩
theorem ps_tryN {body : List Stmt} {h₀ : ExceptHandler} {hs : List ExceptHandler} {cl : List Clause} {pos : Pos} {tb : WX → TS} (hN : X.N.Nodup) (hi : X.N[i]? = some n) (hln : X.env.kindOf n = some .local) (hstk : X.stack = X.env :: X.outer) (hfr : X.env.frame = some X.env.locals) (tk : Takes X out)
    (hb : ∀ (W : WX) (pn : List (Addr × Obj)) (xe : Value → Shared → Prop), Takes (X.tr pn xe) W → PassesOwn (model X.prog X.w) X.A X.env xe → PSs (X.tr pn xe) body (tb W)) (hh : Clauses X n (h₀ :: hs) cl) :
    PS X (.Try body (h₀ :: hs) [] [] pos) (fun D σ H => tb (wCl X.K out D i cl) D σ H) := ⟨fun pins s σ H D I h => by
  have ok := I.ok
  let caught : Value → Shared → Prop := fun e s₁ => wpAny (model X.prog X.w) X.A (noteFrame e X.env) (fun _ s₂ => wpAny (model X.prog X.w) X.A (setFlight e none) (fun _ s₃ => wpAny (model X.prog X.w) X.A (handleBy e X.env (h₀ :: hs)) (SP X pins D) X.xe s₃) X.xe s₂) X.xe s₁
  have takes : Takes (X.tr (X.pn ++ pins) caught) (wCl X.K out D i cl) := by
    rintro e s' ⟨a, B, sI, pn, τ, G, cls, d, rfl, J, nb, up, sky, na, os, ag, w⟩
    have sky' : Sky B (X.env :: X.outer) a (Zc cls d) X.env.locals s'.heap := hstk ▸ sky
    show wpAny (model X.prog X.w) X.A (noteFrame (.ref a) X.env) _ _ _
    exact Sky.land Zc.steady (by rw [ok.frames, hstk]) hfr sky' fun g fly u => clauses_run hN hi hln hstk hfr tk ⟨J.ofTry ok, nb, up, na, os, ag⟩ fly u hh w
  refine wpAny_Try_except (wpAny_mono ((hb _ (X.pn ++ pins) caught takes PassesOwn.looking).run [] s σ H D (I.toTry caught) h) (fun f s1 sp => ?_) fun e s1 he => he)
  match f, sp with
  | .next, ⟨_, _, J, q⟩ => exact wpAny_execs_nil ⟨_, _, J.ofTry ok, q⟩
  | .brk, ⟨_, _, J, q⟩ => exact ⟨_, _, J.ofTry ok, q⟩
  | .cont, ⟨_, _, J, q⟩ => exact ⟨_, _, J.ofTry ok, q⟩
  | .ret v, ⟨_, _, _, J, r, q⟩ => exact ⟨_, _, _, J.ofTry ok, r, q⟩⟩
end
end PL

set_option Elab.async false
set_option linter.all false
set_option maxRecDepth 100000
set_option maxHeartbeats 4000000
namespace PL
open PySem PySem.Spec L2
open PyProof.Rows hiding St
set_option autoImplicit false

/-! ### error classes of the program's own, and what the written part says of them -/
def oexB (K : PySem.W.Frag) (C : Addr) : Bool := match K.lookup C with
  | some ⟨.type "type", _, .cls cd, sl⟩ => (match cd.mro, sl.toList with
    | .ref C' :: bm, [_, _, _, _, some (.builtin n), _] => C' == C && n == "ValueError.__new__" && !cd.hasDel && cd.hasDict && PySem.HandSPX.refsVE bm
    | _, _ => false)
  | _ => false
theorem oexB_ok {K : PySem.W.Frag} {C : Addr} (h : oexB K C = true) (sa : PySem.W.findIn K (.ref C) "__setattr__" = some (some (.builtin "object.__setattr__"))) (ex : PySem.W.subIn K (.ref C) (.type "BaseException") = some true) (ty : PySem.W.typeIn K (.ref C) = some (.type "type")) (kp : PySem.W.keepIn K (.ref C) = true) : OexC K C := by
  refine ⟨?_, sa, ex, ty, kp⟩
  unfold oexB at h
  split at h
  · rename_i dd cd sl ho
    split at h
    · rename_i C' bm k0 k1 k2 k3 n k5 hm hs
      simp only [Bool.and_eq_true, beq_iff_eq, Bool.not_eq_true'] at h
      obtain ⟨⟨⟨⟨rfl, rfl⟩, hdel⟩, hdct⟩, hr⟩ := h
      obtain ⟨nm, bs, mro, ns, qn, hd, sn, sub, ab, col, del⟩ := cd
      dsimp only at hm hdel hdct
      subst hm hdel hdct
      have hsl : sl = #[k0, k1, k2, k3, some (.builtin "ValueError.__new__"), k5] := by
        obtain ⟨l⟩ := sl
        simp only at hs
        rw [hs]
      subst hsl
      exact ⟨_, _, _, _, _, _, _, _, _, _, _, _, _, _, _, ho, hr⟩
    · cases h
  · cases h
/-- the error class x with one field -/
def ecB (K : PySem.W.Frag) (x fld : Str) : Bool :=
  He.eqO (PySem.W.nsIn K mainGlobals x) (some (some (.ref (He.ga K x)))) && (oexB K (He.ga K x) && (He.eqO (PySem.W.findIn K (.ref (He.ga K x)) "__setattr__") (some (some (.builtin "object.__setattr__"))) &&
    (decide (PySem.W.subIn K (.ref (He.ga K x)) (.type "BaseException") = some true) && (decide (PySem.W.typeIn K (.ref (He.ga K x)) = some (.type "type")) && (PySem.W.keepIn K (.ref (He.ga K x)) &&
    (He.eqO (PySem.W.findIn K (.ref (He.ga K x)) "__init__") (some (some (.ref (He.ma K (He.ga K x) "__init__")))) && (decide (PySem.W.typeIn K (.ref (He.ma K (He.ga K x) "__init__")) = some (.type "function")) &&
    (He.eqO (PySem.W.findIn K (.ref (He.ga K x)) fld) (some none) && xfB K (He.ga K x)))))))))
structure EcK (K : PySem.W.Frag) (x fld : Str) : Prop where
  ns : PySem.W.nsIn K mainGlobals x = some (some (.ref (He.ga K x)))
  oex : OexC K (He.ga K x)
  ini : PySem.W.findIn K (.ref (He.ga K x)) "__init__" = some (some (.ref (He.ma K (He.ga K x) "__init__")))
  ity : PySem.W.typeIn K (.ref (He.ma K (He.ga K x) "__init__")) = some (.type "function")
  fld : PySem.W.findIn K (.ref (He.ga K x)) fld = some none
  xf : XfC K (He.ga K x)
theorem ecB_ok {K : PySem.W.Frag} {x fld : Str} (h : ecB K x fld = true) : EcK K x fld := by
  unfold ecB at h
  simp only [Bool.and_eq_true] at h
  obtain ⟨h1, h2, h3, h4, h5, h6, h7, h8, h9, h10⟩ := h
  exact ⟨He.eqO_ok h1, oexB_ok h2 (He.eqO_ok h3) (of_decide_eq_true h4) (of_decide_eq_true h5) h6, He.eqO_ok h7, of_decide_eq_true h8, He.eqO_ok h9, xfB_ok h10⟩
/-- the base class x: its __init__ is ValueError's -/
def peB (K : PySem.W.Frag) (x : Str) : Bool :=
  He.eqO (PySem.W.nsIn K mainGlobals x) (some (some (.ref (He.ga K x)))) && (He.eqO (PySem.W.specialIn K (.ref (He.ga K x)) "__getattribute__") (some (some (.builtin "type.__getattribute__"))) &&
    (PySem.W.readsIn K (He.ga K x) (.type "type") && (match PySem.W.findCls K (.ref (He.ga K x)) (.type "type") "__init__" with
      | some (.val (.builtin n)) => n == "ValueError.__init__"
      | _ => false)))
structure PeK (K : PySem.W.Frag) (x : Str) : Prop where
  ns : PySem.W.nsIn K mainGlobals x = some (some (.ref (He.ga K x)))
  ga : PySem.W.specialIn K (.ref (He.ga K x)) "__getattribute__" = some (some (.builtin "type.__getattribute__"))
  rd : PySem.W.readsIn K (He.ga K x) (.type "type") = true
  at_ : PySem.W.findCls K (.ref (He.ga K x)) (.type "type") "__init__" = some (.val (.builtin "ValueError.__init__"))
theorem peB_ok {K : PySem.W.Frag} {x : Str} (h : peB K x = true) : PeK K x := by
  unfold peB at h
  simp only [Bool.and_eq_true] at h
  obtain ⟨h1, h2, h3, h4⟩ := h
  refine ⟨He.eqO_ok h1, He.eqO_ok h2, h3, ?_⟩
  split at h4
  · rename_i n e
    rw [e, beq_iff_eq.mp h4]
  · cases h4
def exmB (K : PySem.W.Frag) (L : List Str) : Bool := L.all fun a => L.all fun b => decide (PySem.W.exmOne K (.ref (He.ga K a)) (.ref (He.ga K b)) = some (decide (a = b)))
theorem exmB_ok {K : PySem.W.Frag} {L : List Str} (h : exmB K L = true) {a b : Str} (ha : a ∈ L) (hb : b ∈ L) : PySem.W.exmOne K (.ref (He.ga K a)) (.ref (He.ga K b)) = some (decide (a = b)) :=
  of_decide_eq_true (List.all_eq_true.mp (List.all_eq_true.mp h a ha) b hb)

/-! ### their making -/
section
variable {X : Cx} {W : WX} {fr : Bool} {k : Nat}
/-- Base.__init__(self, ..), the base a class of the program's own that has ValueError's -/
theorem pe_baseinit {x : Str} {p1 p2 pos : Pos} {e : Expr} {es : List Expr} {ta : TA} {pl : Sem Bool} (T : PeK X.K x) (hg : Gl X x) (hm : X.mg x = some (.ref (He.ga X.K x))) (ha : PA X (e :: es) ta)
    (hc : eval (.Call (.Attribute (.Name x p1) "__init__" p2) (e :: es) [] pos) X.env = (do
      let ov ← eval (.Name x p1) X.env
      standAt p2.atName
      let (f, first) ← holding [ov] (getMethod ov "__init__" pl)
      callWith pos f first (backTo pos (starEach (e :: es) X.env)) (backToKw pos (keywordEach [] X.env))) := by rfl)
    (he : starEach (e :: es) X.env = (false, eval e X.env) :: starEach es X.env := by rfl) (hpl : (backTo pos (starEach es X.env)).any (·.1) = false := by rfl) (hdb : (x == ("__debug__" : Str)) = false := by decide) :
    PE X (.Call (.Attribute (.Name x p1) "__init__" p2) (e :: es) [] pos) (tVeI X.K ta) := ⟨fun pins s σ H Q I h => by
  refine PySem.W.methodCall_KW (ld_glob I hg hm ?_ hdb) hc
  refine PySem.W.method_cls I.kIn T.ga (PySem.W.cls_value I.kIn T.rd T.at_ (by decide +kernel) ?_)
  refine PyProof.Rows.callWith_method1 (thn (ha.run pos pins _ σ H _ (I.tok _) h) fun us s1 r => ?_) he hpl
  obtain ⟨vs, H1, I1, rv, a, C, ws, ev, hl, O, ea, q⟩ := r
  subst ev
  cases rv with
  | cons r1 r2 =>
    cases r1
    refine oinit_ok O I1 ea ?_ fun s' J => ⟨.non, H1, J, rfl, q⟩
    have z := Paired.length r2
    rw [sizeLine_eq]
    omega⟩
def spI (K : PySem.W.Frag) (fld : Str) : Sp := fun vs H Q _ => ∃ (a C : Addr) (z : Str), vs = [.ref a, .str z] ∧ z.length ≤ 1000 ∧ OexC K C ∧ PySem.W.findIn K (.ref C) fld = some none ∧ H a = some (exo a C none) ∧
  ∀ dx, H dx = none → dx ≠ a → Q .non (upd (upd H dx (exd dx [(fld, .str z)])) a (exo a C (some dx)))
/-- an error class is made so -/
structure Ec (P : Program) (w : World) (K : PySem.W.Frag) (mg : Str → Option Value) (base : Heap) (x fld : Str) : Prop where
  k : EcK K x fld
  at_ : mg x = some (.ref (He.ga K x))
  ok : ∃ (fd : FuncData) (ps : List Str), FnOk P w K mg base (L2.CX P w) 1 (He.ma K (He.ga K x) "__init__") fd ps (spI K fld) ∧ Binds K fd ps []
def sRaise (x fld : Str) (da : Den) : DenS := fun ρ => (da ρ).bindS fun p ρ1 => match p with
  | .str z => if z.length ≤ 1000 then .exc ⟨x, fld, .str z⟩ ρ1 else .bad
  | _ => .bad
theorem ds_raise {x fld : Str} {e : Expr} {p pos pos2 : Pos} {da : Den} (E : Ec X.prog X.w X.K X.mg X.base x fld) (c : Ctx X W k) (ha : DE X W e da) (hk : 2 ≤ k := by decide) (hg : Gl X x := by rfl) (hdb : (x == ("__debug__" : Str)) = false := by decide)
    (he : starEach [e] X.env = (false, eval e X.env) :: starEach [] X.env := by rfl) (hpl : (backTo pos (starEach [] X.env)).any (·.1) = false := by rfl) : DS X W fr (.Raise (some (.Call (.Name x p) [e] [] pos)) none pos2) (sRaise x fld da) := by
  obtain ⟨fd, ps, ok, hb⟩ := E.ok
  refine DS.of (ps_raise c.calm c.tk (pmk_oex E.k.oex E.k.ini E.k.ity ok (c.room.mono hk) hb .nil passL hg E.at_ (pa_cons ha pa_nil he) hdb he hpl)) fun H₀ S₀ M S σ H ρ D ab hp => ?_
  refine XOk.bindS (Rl := rV X.K) canon_ok ab hp fun q ρ1 v S1 H1 _ a1 _ r1 hp => ?_
  cases q with
  | str z =>
    have hp : SPost X.K X.mg W fr H₀ S₀ M (if z.length ≤ 1000 then .exc ⟨x, fld, .str z⟩ ρ1 else .bad) D := hp
    by_cases hz : z.length ≤ 1000
    · rw [if_pos hz] at hp
      cases r1
      refine ⟨by simp, fun a ha => ⟨a, He.ga X.K x, z, rfl, hz, E.k.oex, E.k.fld, upd_same, fun dx hd hne => ⟨rfl, dx, [(fld, .str z)], upd_same, ?_, ?_, ?_⟩⟩⟩
      · rw [upd_ne hne, upd_same]
      · rw [upd_ne hne] at hd
        exact hd
      · rw [upd_ne hne] at hd
        have e1 : upd (del (upd (upd (upd H1 a (exo a (He.ga X.K x) none)) dx (exd dx [(fld, .str z)])) a (exo a (He.ga X.K x) (some dx))) a) dx (.xd [(fld, .str z)]) = upd H1 dx (.xd [(fld, .str z)]) := by
          funext b
          by_cases h1 : b = dx
          · subst h1; rw [upd_same, upd_same]
          · rw [upd_ne h1, upd_ne h1]
            by_cases h2 : b = a
            · subst h2; rw [del_same, ha]
            · rw [del_ne h2, upd_ne h2, upd_ne h1, upd_ne h2]
        rw [e1]
        exact hp _ _ S1 σ _ (a1.step (Step.hid a1.sub hd)) ⟨_, dx, .str z, E.at_, rfl, rfl, upd_same, .str z⟩
    · rw [if_neg hz] at hp
      exact hp.elim
  | _ => exact hp.elim

/-! ### try: .. except X as n: return n.field .. -/
def sTry (cs : List Str) (fld : Str) (i : Nat) (body : DenS) : DenS := fun ρ => match body ρ with
  | .exc x ρ1 => if (cs.contains x.cls && decide (x.fld = fld)) && decide (i < ρ1.length) then .rt x.val (ρ1.set i .un) else .bad
  | r => r
theorem clause_in {K : PySem.W.Frag} {mg : Str → Option Value} {L : List Str} {out : WX} {D : Ends} {i : Nat} {x : Exn} {S0 : Hp} {cls : Value} {d : Option Addr} {σ : L2.St} {G : Hp} {fld : Str} (ex : exmB K L = true) (hmg : ∀ y ∈ L, mg y = some (.ref (He.ga K y))) (hx : x.cls ∈ L) (re : ExcRep K mg S0 G x cls d) (hf : x.fld = fld) (hi : i < σ.length) (hD : ∀ v, Rep K S0 x.val v → D.rt v G) :
    ∀ (cs : List Str), (∀ y ∈ cs, y ∈ L) → x.cls ∈ cs → wCl K out D i (cs.map fun y => (.ref (He.ga K y), fun a cls d => tRet (tXf a cls d (He.ga K y) fld (tVar i)))) cls d σ G := by
  obtain ⟨C, dx, v, h1, h2, h3, h4, h5⟩ := re
  have eC : C = He.ga K x.cls := by
    have z := hmg _ hx
    rw [h1] at z
    cases z
    rfl
  subst eC
  subst h2
  intro cs
  induction cs with
  | nil => intro _ h; cases h
  | cons y r ih =>
    intro hs h
    refine ⟨decide (x.cls = y), exmB_ok ex hx (hs y List.mem_cons_self), fun hit a _ => ?_, fun hit => ?_⟩
    · have e : x.cls = y := of_decide_eq_true hit
      subst e
      refine ⟨.ref a, List.getElem?_set_self hi, rfl, rfl, dx, [(x.fld, v)], v, h3, h4, ?_, hD v h5⟩
      rw [← hf]
      simp [List.lookup]
    · have ne : x.cls ≠ y := of_decide_eq_false hit
      exact ih (fun z hz => hs z (List.mem_cons_of_mem _ hz)) (by
        rcases List.mem_cons.mp h with e | e
        · exact absurd e ne
        · exact e)
theorem ds_try {body : List Stmt} {h₀ : ExceptHandler} {hs : List ExceptHandler} {pos : Pos} {n fld : Str} {d : DenS} (L cs : List Str) (i : Nat) (ex : exmB X.K L = true) (hmg : ∀ y ∈ L, X.mg y = some (.ref (He.ga X.K y))) (c : Ctx X W k)
    (hb : ∀ (W' : WX) (pn : List (Addr × Obj)) (xe : Value → Shared → Prop), Ctx (X.tr pn xe) W' k → Po (X.tr pn xe) → DSs (X.tr pn xe) W' false body d) (hcl : Clauses X n (h₀ :: hs) (cs.map fun y => (.ref (He.ga X.K y), fun a cls d => tRet (tXf a cls d (He.ga X.K y) fld (tVar i)))))
    (hsub : ∀ y ∈ cs, y ∈ L := by decide) (hi : X.N[i]? = some n := by rfl) (hln : X.env.kindOf n = some .local := by rfl) (hstk : X.stack = X.env :: X.outer := by rfl) (hfr : X.env.frame = some X.env.locals := by rfl) :
    DS X W false (.Try body (h₀ :: hs) [] [] pos) (sTry cs fld i d) := by
  have hlen : i < X.N.length := (List.getElem?_eq_some_iff.mp hi).1
  have P := ps_tryN (pos := pos) (out := W) c.nd hi hln hstk hfr c.tk (tb := fun W' => canonS X.K X.mg W' false d) (fun W' pn xe tk po => hb W' pn xe ⟨c.calm, c.nd, c.room, tk⟩ po) hcl
  refine ⟨fun pins s σ H D I q => P.run pins s σ H D I ?_⟩
  obtain ⟨H₀, S₀, M, S, ρ, ab, hp⟩ := q
  have hl : ρ.length = X.N.length := by rw [ab.len]; exact I.len
  refine ⟨H₀, S₀, M, S, ρ, ab, ?_⟩
  unfold sTry at hp
  cases e : d ρ with
  | bad => rw [e] at hp; exact hp
  | nx ρ1 => rw [e] at hp; exact hp
  | bk ρ1 => rw [e] at hp; exact hp
  | ct ρ1 => rw [e] at hp; exact hp
  | rt p ρ1 => rw [e] at hp; exact hp
  | exc x ρ1 =>
    simp only [e] at hp
    by_cases hc : ((cs.contains x.cls && decide (x.fld = fld)) && decide (i < ρ1.length)) = true
    · rw [if_pos hc] at hp
      obtain ⟨hc0, hc3⟩ := (Bool.and_eq_true _ _).mp hc
      obtain ⟨hc1, hc2⟩ := (Bool.and_eq_true _ _).mp hc0
      have hm : x.cls ∈ cs := by simpa using hc1
      intro cls dd S' σ' H' a1 re
      have hlt : i < σ'.length := by rw [← a1.len]; exact of_decide_eq_true hc3
      refine clause_in ex hmg (hsub _ hm) re (of_decide_eq_true hc2) hlt (fun v rv => ?_) cs hsub hm
      refine hp v S' σ' H' (a1.forget ?_ fun j s ej hn => ?_) rv
      · rw [List.length_set]; exact a1.len
      · by_cases hj : j = i
        · subst hj
          rw [List.getElem?_set_self (by rw [a1.len]; exact hlt)] at ej
          cases ej
          exact absurd rfl hn
        · rw [List.getElem?_set_ne (Ne.symm hj)] at ej
          exact ⟨ej, rfl⟩
    · rw [if_neg hc] at hp
      exact hp.elim
end
end PL

set_option Elab.async false
set_option linter.all false
set_option maxRecDepth 100000
set_option maxHeartbeats 4000000
namespace PL
open PySem PySem.Spec L2
open PyProof.Rows hiding St
set_option autoImplicit false

/-! ### keys of dicts -/
abbrev KK := Key ⊕ List Key
def key? : PV → Option Key
  | .int i => some (.inl i)
  | .str x => some (.inr x)
  | _ => none
def keys? : List PV → Option (List Key)
  | [] => some []
  | p :: ps => (key? p).bind fun k => (keys? ps).map fun ks => k :: ks
def kk? : PV → Option KK
  | .tup ps => (keys? ps).map .inr
  | p => (key? p).map .inl
def kEq (p q : PV) : Bool := match kk? p, kk? q with
  | some a, some b => decide (a = b)
  | _, _ => false
theorem key?_keyPV (k : Key) : key? (keyPV k) = some k := by cases k <;> rfl
theorem key?_some {p : PV} {k : Key} (h : key? p = some k) : p = keyPV k := by
  cases p <;> simp [key?] at h <;> subst h <;> rfl
theorem keys?_map : ∀ ks : List Key, keys? (ks.map keyPV) = some ks
  | [] => rfl
  | k :: ks => by
    show (key? (keyPV k)).bind (fun k => (keys? (ks.map keyPV)).map fun ks => k :: ks) = _
    rw [key?_keyPV, keys?_map ks]
    rfl
theorem keys?_some : ∀ {ps : List PV} {ks : List Key}, keys? ps = some ks → ps = ks.map keyPV
  | [], _, h => by cases h; rfl
  | p :: ps, ks, h => by
    have h : (key? p).bind (fun k => (keys? ps).map fun ks => k :: ks) = some ks := h
    cases h1 : key? p with
    | none => rw [h1] at h; cases h
    | some k =>
      cases h2 : keys? ps with
      | none => rw [h1, h2] at h; cases h
      | some ks' =>
        rw [h1, h2] at h
        cases h
        rw [key?_some h1, keys?_some h2]
        rfl
theorem kk?_key (k : Key) : kk? (keyPV k) = some (.inl k) := by cases k <;> rfl
theorem kk?_keys (ks : List Key) : kk? (.tup (ks.map keyPV)) = some (.inr ks) := by
  show (keys? (ks.map keyPV)).map Sum.inr = _
  rw [keys?_map]
  rfl
/-- what a dict holds at a key -/
def dLook : List PV → List PV → PV → Option PV
  | k :: ks, v :: vs, q => if kEq k q = true then some v else dLook ks vs q
  | _, _, _ => none
/-- .. and with the key stored -/
def dPut : List PV → List PV → PV → PV → List PV × List PV
  | k :: ks, v :: vs, q, e => if kEq k q = true then (k :: ks, e :: vs) else ((k :: (dPut ks vs q e).1), (v :: (dPut ks vs q e).2))
  | _, _, q, e => ([q], [e])
section
variable {K : PySem.W.Frag} {S : Hp}
theorem Rep.keyV {k : Key} {v : V} (h : Rep K S (keyPV k) v) : v = kV k := by
  cases k <;> cases h <;> rfl
theorem RepL.keyVs : ∀ {ks : List Key} {vs : List V}, RepL K S (ks.map keyPV) vs → vs = ks.map kV
  | [], _, h => by cases h; rfl
  | k :: ks, _, h => by
    cases h with
    | cons h1 h2 => rw [Rep.keyV h1, RepL.keyVs h2]; rfl
theorem dLookK (k : Key) : ∀ {kvs : List (Key × V)} {ps : List PV} {p : PV}, RepL K S ps (kvs.map (·.2)) → dLook (kvs.map fun q => keyPV q.1) ps (keyPV k) = some p → ∃ v, valV kvs k = some v ∧ Rep K S p v
  | [], _, _, h, e => by cases h; cases e
  | (k', v) :: kvs, _, p, h, e => by
    cases h with
    | cons h1 h2 =>
      have e : (if kEq (keyPV k') (keyPV k) = true then some _ else dLook (kvs.map fun q => keyPV q.1) _ (keyPV k)) = some p := e
      have ek : kEq (keyPV k') (keyPV k) = decide (k' = k) := by
        unfold kEq
        rw [kk?_key, kk?_key]
        by_cases hk : k' = k
        · subst hk; simp
        · simp [hk]
      rw [ek] at e
      by_cases hk : k' = k
      · rw [if_pos (decide_eq_true hk)] at e
        cases e
        exact ⟨v, valV_pos hk, h1⟩
      · rw [if_neg (by simp [hk])] at e
        rw [valV_neg hk]
        exact dLookK k h2 e
theorem dLookKn (k : Key) : ∀ {kvs : List (Key × V)} {ps : List PV}, RepL K S ps (kvs.map (·.2)) → dLook (kvs.map fun q => keyPV q.1) ps (keyPV k) = none → valV kvs k = none
  | [], _, h, e => rfl
  | (k', v) :: kvs, _, h, e => by
    cases h with
    | cons h1 h2 =>
      have e : (if kEq (keyPV k') (keyPV k) = true then some _ else dLook (kvs.map fun q => keyPV q.1) _ (keyPV k)) = none := e
      have ek : kEq (keyPV k') (keyPV k) = decide (k' = k) := by
        unfold kEq
        rw [kk?_key, kk?_key]
        by_cases hk : k' = k
        · subst hk; simp
        · simp [hk]
      rw [ek] at e
      by_cases hk : k' = k
      · rw [if_pos (decide_eq_true hk)] at e
        cases e
      · rw [if_neg (by simp [hk])] at e
        rw [valV_neg hk]
        exact dLookKn k h2 e
theorem kEq_keys (a b : List Key) : kEq (.tup (a.map keyPV)) (.tup (b.map keyPV)) = decide (a = b) := by
  unfold kEq
  rw [kk?_keys, kk?_keys]
  by_cases hk : a = b
  · subst hk; simp
  · simp [hk]
theorem dLookT (k : List Key) : ∀ {kvs : List (List Key × V)} {ps : List PV} {p : PV}, RepL K S ps (kvs.map (·.2)) → dLook (kvs.map fun q => .tup (q.1.map keyPV)) ps (.tup (k.map keyPV)) = some p → ∃ v, valV kvs k = some v ∧ Rep K S p v
  | [], _, _, h, e => by cases h; cases e
  | (k', v) :: kvs, _, p, h, e => by
    cases h with
    | cons h1 h2 =>
      have e : (if kEq (.tup (k'.map keyPV)) (.tup (k.map keyPV)) = true then some _ else dLook (kvs.map fun q => .tup (q.1.map keyPV)) _ (.tup (k.map keyPV))) = some p := e
      rw [kEq_keys] at e
      by_cases hk : k' = k
      · rw [if_pos (decide_eq_true hk)] at e
        cases e
        exact ⟨v, valV_pos hk, h1⟩
      · rw [if_neg (by simp [hk])] at e
        rw [valV_neg hk]
        exact dLookT k h2 e
theorem dLookTn (k : List Key) : ∀ {kvs : List (List Key × V)} {ps : List PV}, RepL K S ps (kvs.map (·.2)) → dLook (kvs.map fun q => .tup (q.1.map keyPV)) ps (.tup (k.map keyPV)) = none → valV kvs k = none
  | [], _, h, e => rfl
  | (k', v) :: kvs, _, h, e => by
    cases h with
    | cons h1 h2 =>
      have e : (if kEq (.tup (k'.map keyPV)) (.tup (k.map keyPV)) = true then some _ else dLook (kvs.map fun q => .tup (q.1.map keyPV)) _ (.tup (k.map keyPV))) = none := e
      rw [kEq_keys] at e
      by_cases hk : k' = k
      · rw [if_pos (decide_eq_true hk)] at e
        cases e
      · rw [if_neg (by simp [hk])] at e
        rw [valV_neg hk]
        exact dLookTn k h2 e
/-- the key's kind is the dict's -/
def kOk : Bool → PV → Bool
  | true, .tup _ => true
  | false, .int _ => true
  | false, .str _ => true
  | _, _ => false
/-- a dict shared or owned: looked up -/
inductive DRep (K : PySem.W.Frag) (S H : Hp) : Bool → List PV → List PV → Addr → Prop
  | k {a : Addr} {kvs : List (Key × V)} {ps : List PV} : Rd H a (.dK kvs) → RepL K S ps (kvs.map (·.2)) → DRep K S H false (kvs.map fun p => keyPV p.1) ps a
  | t {a : Addr} {kvs : List (List Key × V)} {ps : List PV} : Rd H a (.dT kvs) → RepL K S ps (kvs.map (·.2)) → DRep K S H true (kvs.map fun p => .tup (p.1.map keyPV)) ps a
theorem DRep.of {H : Hp} {tk : Bool} {ks ps : List PV} {v : V} (s : Same S H) (h : Rep K S (.dic tk ks ps) v) : ∃ a, v = .ref a ∧ DRep K S H tk ks ps a := by
  cases h with
  | dK h1 h2 => exact ⟨_, rfl, .k (h1.same s) h2⟩
  | dT h1 h2 => exact ⟨_, rfl, .t (h1.same s) h2⟩
theorem DRep.own {H : Hp} {tk : Bool} {ks ps : List PV} {b : Addr} {o : HO} (h : H b = some o) (w : OwnO K S (.dic tk ks ps) o) : DRep K S H tk ks ps b := by
  cases tk <;> cases o
  case false.dK kvs =>
    obtain ⟨rfl, h2⟩ := (show ks = kvs.map (fun p => keyPV p.1) ∧ RepL K S ps (kvs.map (·.2)) from w)
    exact .k (.inl h) h2
  case true.dT kvs =>
    obtain ⟨rfl, h2⟩ := (show ks = kvs.map (fun p => .tup (p.1.map keyPV)) ∧ RepL K S ps (kvs.map (·.2)) from w)
    exact .t (.inl h) h2
  all_goals exact w.elim
theorem DRep.isD {H : Hp} {tk : Bool} {ks ps : List PV} {a : Addr} (h : DRep K S H tk ks ps a) : IsD H a := by
  cases h with
  | k h1 _ => exact .inl ⟨_, h1⟩
  | t h1 _ => exact .inr ⟨_, h1⟩
theorem DRep.get {H : Hp} {tk : Bool} {ks ps : List PV} {a : Addr} {q : PV} {y : V} (s : Same S H) (h : DRep K S H tk ks ps a) (ry : Rep K S q y) (hk : (kk? q).isSome = true) (ho : kOk tk q = true) :
    (∀ p, dLook ks ps q = some p → ∃ v, DGet H a y (some v) ∧ Rep K S p v) ∧ (dLook ks ps q = none → DGet H a y none) := by
  have keyed : ∀ k, key? q = some k → (∀ p, dLook ks ps q = some p → ∃ v, DGet H a y (some v) ∧ Rep K S p v) ∧ (dLook ks ps q = none → DGet H a y none) := fun k hq => by
    have eq := key?_some hq
    subst eq
    have ey := ry.keyV
    subst ey
    cases h with
    | k h3 h4 =>
      refine ⟨fun p e => ?_, fun e => ?_⟩
      · obtain ⟨v, z1, z2⟩ := dLookK k h4 e
        exact ⟨v, .inl ⟨_, k, h3, rfl, z1.symm⟩, z2⟩
      · exact .inl ⟨_, k, h3, rfl, (dLookKn k h4 e).symm⟩
    | t h3 h4 =>
      cases k <;> cases ho
  cases q with
  | tup qs =>
    cases ry with
    | tup h1 h2 =>
      rename_i b us
      have hk : ((keys? qs).map (Sum.inr : List Key → KK)).isSome = true := hk
      cases hks : keys? qs with
      | none => rw [hks] at hk; cases hk
      | some k =>
        have eq := keys?_some hks
        subst eq
        have hx := s _ _ h1
        rw [h2.keyVs] at hx
        cases h with
        | t h3 h4 =>
          refine ⟨fun p e => ?_, fun e => ?_⟩
          · obtain ⟨v, z1, z2⟩ := dLookT k h4 e
            exact ⟨v, .inr ⟨_, k, b, h3, rfl, hx, z1.symm⟩, z2⟩
          · exact .inr ⟨_, k, b, h3, rfl, hx, (dLookTn k h4 e).symm⟩
        | k h3 h4 =>
          cases ho
  | int i => exact keyed (.inl i) rfl
  | str x => exact keyed (.inr x) rfl
  | _ => cases hk
end
end PL

set_option Elab.async false
set_option linter.all false
set_option maxRecDepth 100000
set_option maxHeartbeats 4000000
namespace PL
open PySem PySem.Spec L2
open PyProof.Rows hiding St
set_option autoImplicit false

/-! ### dicts: rules -/
def kGood (t : Bool) (q : PV) : Bool := (kk? q).isSome && kOk t q
def gDG : PV → PV → Option PV
  | .dic t ks vs, q => if kGood t q then dLook ks vs q else none
  | _, _ => none
def gDHas (neg : Bool) : PV → PV → Option PV
  | q, .dic t ks vs => if kGood t q then some (.bl (if neg then !(dLook ks vs q).isSome else (dLook ks vs q).isSome)) else none
  | _, _ => none
def gDG2 : PV → PV → PV → Option PV
  | .dic t ks vs, q, d => if kGood t q then some ((dLook ks vs q).getD d) else none
  | _, _, _ => none
def dGet2 (da db dc : Den) : Den := fun ρ => (da ρ).bind fun p ρ1 => (db ρ1).bind fun q ρ2 => (dc ρ2).bind fun d ρ3 => opt (gDG2 p q d) ρ3
def dGet2v (i : Nat) (db dc : Den) : Den := fun ρ => match slot ρ i with
  | some (.dic _ _ _) => (db ρ).bind fun q ρ2 => (dc ρ2).bind fun d ρ3 => match slot ρ3 i with
    | some p => opt (gDG2 p q d) ρ3
    | none => .bad
  | _ => .bad
section
variable {K : PySem.W.Frag} {mg : Str → Option Value} {W : WX}
theorem DRep.got {S H : Hp} {t : Bool} {ks ps : List PV} {a : Addr} {q p : PV} {y : V} (s : Same S H) (h : DRep K S H t ks ps a) (ry : Rep K S q y) (hk : kGood t q = true) (e : dLook ks ps q = some p) : ∃ v, DGet H a y (some v) ∧ Rep K S p v :=
  (h.get s ry ((Bool.and_eq_true _ _).mp hk).1 ((Bool.and_eq_true _ _).mp hk).2).1 p e
theorem DRep.not {S H : Hp} {t : Bool} {ks ps : List PV} {a : Addr} {q : PV} {y : V} (s : Same S H) (h : DRep K S H t ks ps a) (ry : Rep K S q y) (hk : kGood t q = true) (e : dLook ks ps q = none) : DGet H a y none :=
  (h.get s ry ((Bool.and_eq_true _ _).mp hk).1 ((Bool.and_eq_true _ _).mp hk).2).2 e
/-- a dict in a slot, shared or owned -/
theorem Abs.dict {H₀ S₀ : Hp} {M : Addr → Prop} {S H : Hp} {σ : L2.St} {ρ : Env} {i : Nat} {t : Bool} {ks ps : List PV} (a : Abs K H₀ S₀ M S σ H ρ) (e : slot ρ i = some (.dic t ks ps)) :
    ∃ b, σ[i]? = some (some (.ref b)) ∧ DRep K S H t ks ps b := by
  obtain ⟨v, hv, h⟩ := a.lookL e
  rcases h with h | ⟨b, o, rfl, h2, h3, h4⟩
  · obtain ⟨b, rfl, h5⟩ := DRep.of a.sub h
    exact ⟨b, hv, h5⟩
  · exact ⟨b, hv, DRep.own h3 h4⟩
theorem eo_dg {td ty : TE} {da db : Den} (ha : EOk K mg W td da) (hb : EOk K mg W ty db) : EOk K mg W (tDGet td ty) (d2 gDG da db) := fun H₀ S₀ M S σ H ρ Q ab hp =>
  ha.bind (Rl' := rV K) ab hp fun p ρ1 v S1 H1 _ a1 _ r1 hp => hb.bind (Rl' := rV K) a1 hp fun q ρ2 y S2 H2 _ a2 s2 r2 hp => by
    cases p with
    | dic t ks vs =>
      by_cases hk : kGood t q = true
      · cases e : dLook ks vs q with
        | none => simp only [gDG, if_pos hk, e] at hp; exact hp.elim
        | some z =>
          simp only [gDG, if_pos hk, e] at hp
          obtain ⟨a, rfl, h⟩ := DRep.of a2.sub (r1.up s2)
          obtain ⟨v, h1, h2⟩ := h.got a2.sub r2 hk e
          exact ⟨a, v, rfl, h1, hp v S2 H2 a2 h2⟩
      · simp only [gDG, if_neg hk] at hp; exact hp.elim
    | _ => exact hp.elim
theorem eo_dgv {i : Nat} {ty : TE} {db : Den} (hb : EOk K mg W ty db) : EOk K mg W (tDGet (tVar i) ty) (d2l gDG i db) := fun H₀ S₀ M S σ H ρ Q ab hp => by
  unfold d2l at hp
  cases e0 : slot ρ i with
  | none => rw [e0] at hp; exact hp.elim
  | some p0 =>
    rw [e0] at hp
    obtain ⟨v0, _, hv, _⟩ := ab.look e0
    refine ⟨v0, hv, hb.bind (Rl' := rV K) ab hp fun q ρ1 y S1 H1 _ a1 _ r1 hp => ?_⟩
    cases e1 : slot ρ1 i with
    | none => rw [e1] at hp; exact hp.elim
    | some p =>
      rw [e1] at hp
      cases p with
      | dic t ks vs =>
        obtain ⟨b, h1, h2⟩ := a1.dict e1
        rw [hv] at h1
        cases h1
        by_cases hk : kGood t q = true
        · cases e : dLook ks vs q with
          | none => simp only [gDG, if_pos hk, e] at hp; exact hp.elim
          | some z =>
            simp only [gDG, if_pos hk, e] at hp
            obtain ⟨v, h3, h4⟩ := h2.got a1.sub r1 hk e
            exact ⟨b, v, rfl, h3, hp v S1 H1 a1 h4⟩
        · simp only [gDG, if_neg hk] at hp; exact hp.elim
      | _ => exact hp.elim
theorem eo_dget2v {i : Nat} {ty tx : TE} {db dc : Den} (hb : EOk K mg W ty db) (hc : EOk K mg W tx dc) : EOk K mg W (tDGet2 (tVar i) ty tx) (dGet2v i db dc) := fun H₀ S₀ M S σ H ρ Q ab hp => by
  unfold dGet2v at hp
  cases e0 : slot ρ i with
  | none => rw [e0] at hp; exact hp.elim
  | some p0 =>
    rw [e0] at hp
    cases p0 with
    | dic t0 ks0 vs0 =>
      obtain ⟨b, hv, h0⟩ := ab.dict e0
      refine ⟨.ref b, hv, b, rfl, h0.isD, hb.bind (Rl' := rV K) ab hp fun q ρ1 y S1 H1 _ a1 _ r1 hp => hc.bind (Rl' := rV K) a1 hp fun d ρ2 z S2 H2 _ a2 s2 r2 hp => ?_⟩
      cases e1 : slot ρ2 i with
      | none => rw [e1] at hp; exact hp.elim
      | some p =>
        rw [e1] at hp
        cases p with
        | dic t ks vs =>
          obtain ⟨b', h1, h2⟩ := a2.dict e1
          rw [hv] at h1
          cases h1
          by_cases hk : kGood t q = true
          · simp only [gDG2, if_pos hk] at hp
            cases e : dLook ks vs q with
            | none =>
              rw [e] at hp
              exact ⟨none, h2.not a2.sub (r1.up s2) hk e, hp z S2 H2 a2 r2⟩
            | some p' =>
              rw [e] at hp
              obtain ⟨v, h3, h4⟩ := h2.got a2.sub (r1.up s2) hk e
              exact ⟨some v, h3, hp v S2 H2 a2 h4⟩
          · simp only [gDG2, if_neg hk] at hp; exact hp.elim
        | _ => exact hp.elim
    | _ => exact hp.elim
theorem dhas_core {neg : Bool} {i : Nat} {ty : TE} {db : Den} (hb : EOk K mg W ty db) {H₀ S₀ : Hp} {M : Addr → Prop} {S H : Hp} {σ : L2.St} {ρ : Env} {Q : VK} (ab : Abs K H₀ S₀ M S σ H ρ) (hp : Post K mg W (rV K) H₀ S₀ M σ (d2r (gDHas neg) db i ρ) Q) :
    ty σ H fun y H1 => ∃ x, σ[i]? = some (some x) ∧ ∃ a o, x = .ref a ∧ DGet H1 a y o ∧ Q (.bl (if neg then !o.isSome else o.isSome)) H1 :=
  hb.bind (Rl' := rV K) ab hp fun q ρ1 y S1 H1 _ a1 _ r1 hp => by
    cases e1 : slot ρ1 i with
    | none => rw [e1] at hp; exact hp.elim
    | some p =>
      rw [e1] at hp
      cases p with
      | dic t ks vs =>
        obtain ⟨b, h1, h2⟩ := a1.dict e1
        refine ⟨.ref b, h1, b, ?_⟩
        by_cases hk : kGood t q = true
        · simp only [gDHas, if_pos hk] at hp
          cases e : dLook ks vs q with
          | none =>
            rw [e] at hp
            exact ⟨none, rfl, h2.not a1.sub r1 hk e, hp _ S1 H1 a1 (.bl _)⟩
          | some p' =>
            rw [e] at hp
            obtain ⟨v, h3, h4⟩ := h2.got a1.sub r1 hk e
            exact ⟨some v, rfl, h3, hp _ S1 H1 a1 (.bl _)⟩
        · simp only [gDHas, if_neg hk] at hp; cases q <;> exact hp.elim
      | _ => cases q <;> exact hp.elim
theorem eo_din {i : Nat} {ty : TE} {db : Den} (hb : EOk K mg W ty db) : EOk K mg W (tDIn ty (tVar i)) (d2r (gDHas false) db i) := fun H₀ S₀ M S σ H ρ Q ab hp => dhas_core (neg := false) hb ab hp
theorem eo_dnotin {i : Nat} {ty : TE} {db : Den} (hb : EOk K mg W ty db) : EOk K mg W (tDNotIn ty (tVar i)) (d2r (gDHas true) db i) := fun H₀ S₀ M S σ H ρ Q ab hp => dhas_core (neg := true) hb ab hp
end
/-! ### isinstance -/
def tyName : PV → Option String
  | .non => some "NoneType"
  | .bl _ => some "bool"
  | .int _ => some "int"
  | .str _ => some "str"
  | .lst _ => some "list"
  | .tup _ => some "tuple"
  | .ktup _ => some "tuple"
  | .dic false _ _ => some "dict"
  | .dic true _ _ => none
  | .fn _ => none
  | .obj _ _ _ => none
  | .klst _ => none
def gIsi (T : String) (p : PV) : Option PV := (tyName p).bind fun t => (kitB t T).map .bl
def gIsi2 (T U : String) (p : PV) : Option PV := (tyName p).bind fun t => (kitB t T).bind fun a => (kitB t U).map fun b => .bl (a || b)
section
variable {K : PySem.W.Frag} {mg : Str → Option Value} {W : WX}
theorem Rep.ty {S H : Hp} {p : PV} {v : V} {t : String} (s : Same S H) (r : Rep K S p v) (e : tyName p = some t) : TyX K H v (.type t) := by
  cases r with
  | non => cases e; exact .base .non
  | bl b => cases e; exact .base (.bl b)
  | int i => cases e; exact .base (.int i)
  | str x => cases e; exact .base (.str x)
  | lst h1 h2 => cases e; exact .base (.lst (s _ _ h1))
  | tup h1 h2 => cases e; exact .base (.tup (s _ _ h1))
  | ktup h1 h2 =>
    cases e
    rcases h1 with (h | ⟨o, h⟩) | ⟨o, its, n, h1, h3, _⟩
    · exact .base (.tup (s _ _ h))
    · exact .fTuple (s _ _ h)
    · exact .kTuple h1 h3
  | klst h1 h2 => cases e
  | dK h1 h2 =>
    cases e
    rcases h1 with h1 | ⟨o, h1⟩
    · exact .base (.dK (s _ _ h1))
    · exact .fDict (s _ _ h1)
  | dT h1 h2 => cases e
  | fn a => cases e
  | obj h1 h2 => cases e
theorem eo_isi {T : String} {ta : TE} {da : Den} (ha : EOk K mg W ta da) : EOk K mg W (tCB (rIsi K) (tCons ta (tCons (tC (.ty T)) tNil))) (d1 (gIsi T) da) := fun H₀ S₀ M S σ H ρ Q ab hp =>
  ha.bind (Rl' := rV K) ab hp fun p ρ1 v S1 H1 _ a1 _ r1 hp => by
    cases e : tyName p with
    | none => simp only [gIsi, e] at hp; exact hp.elim
    | some t =>
      cases e2 : kitB t T with
      | none => simp only [gIsi, e, e2, Option.bind_some, Option.map_none] at hp; exact hp.elim
      | some b =>
        simp only [gIsi, e, e2, Option.bind_some, Option.map_some] at hp
        exact ⟨v, .ty T, .type t, .type T, b, rfl, .ty T, r1.ty a1.sub e, kit_ty e2, hp _ S1 H1 a1 (.bl b)⟩
theorem eo_isi2 {T U : String} {ta : TE} {da : Den} (ha : EOk K mg W ta da) : EOk K mg W (tCB (rIsiT K) (tCons ta (tCons (tTup (tCons (tC (.ty T)) (tCons (tC (.ty U)) tNil))) tNil))) (d1 (gIsi2 T U) da) := fun H₀ S₀ M S σ H ρ Q ab hp =>
  ha.bind (Rl' := rV K) ab hp fun p ρ1 v S1 H1 _ a1 _ r1 hp => by
    refine ⟨by show 2 ≤ sizeLine; rw [sizeLine_eq]; decide, fun tp n => ?_⟩
    cases e : tyName p with
    | none => simp only [gIsi2, e] at hp; exact hp.elim
    | some t =>
      cases e2 : kitB t T with
      | none => simp only [gIsi2, e, e2, Option.bind_some, Option.bind_none] at hp; exact hp.elim
      | some a =>
        cases e3 : kitB t U with
        | none => simp only [gIsi2, e, e2, e3, Option.bind_some, Option.map_none] at hp; exact hp.elim
        | some b =>
          simp only [gIsi2, e, e2, e3, Option.bind_some, Option.map_some] at hp
          have st := Step.hid (o := .tup [.ty T, .ty U]) a1.sub n
          refine ⟨v, tp, [.ty T, .ty U], .type t, [.type T, .type U], a || b, rfl, upd_same, .cons (.ty T) (.cons (.ty U) .nil), r1.ty (st.s.trans st.sub) e, ?_, hp _ S1 _ (a1.step st) (.bl _)⟩
          refine kitAny_cons (kit_ty e2) (fun ea => ?_) fun ea => by rw [ea]; rfl
          rw [ea, Bool.false_or]
          exact kitAny_cons (kit_ty e3) (fun eb => by rw [eb]; exact kitAny_nil) fun eb => eb
/-! ### is of a bool -/
def gIsB (neg : Bool) (c : Bool) : PV → Option PV
  | .bl b => some (.bl (if neg then !decide (b = c) else decide (b = c)))
  | .non => some (.bl neg)
  | _ => none
end
def rIsBN (neg : Bool) : R2 := fun x y H Q => ∃ c : Bool, y = .bl c ∧ ((∃ b : Bool, x = .bl b ∧ Q (.bl (if neg then !decide (b = c) else decide (b = c))) H) ∨ (x = .non ∧ Q (.bl neg) H))
section
variable {X : Cx} {W : WX} {fr : Bool} {k : Nat} {pos p p2 p3 apos cpos np : Pos} {e a b : Expr} {es rest : List Expr} {da db dc : Den} {dl : DenL} {x : Str}
theorem op_isBN : OpR X (compareOp .Is) (rIsBN false) := by
  intro pins s σ H x y v u Q I rx ry h
  obtain ⟨c, rfl, h⟩ := h
  rcases h with ⟨b, rfl, q⟩ | ⟨rfl, q⟩
  · exact op_isBl pins s σ H _ _ v u Q I rx ry ⟨b, c, rfl, rfl, q⟩
  · cases (show v = Value.none from rx)
    cases (show u = Value.bool c from ry)
    exact wpAny_is_other rfl (fun z => by cases z) ⟨.bl false, H, I, rfl, q⟩
theorem op_isNotBN : OpR X (compareOp .IsNot) (rIsBN true) := by
  intro pins s σ H x y v u Q I rx ry h
  obtain ⟨c, rfl, h⟩ := h
  rcases h with ⟨b, rfl, q⟩ | ⟨rfl, q⟩
  · exact op_notBl pins s σ H _ _ v u Q I rx ry ⟨b, c, rfl, rfl, q⟩
  · cases (show v = Value.none from rx)
    cases (show u = Value.bool c from ry)
    exact wpAny_isNot_other rfl (fun z => by cases z) ⟨.bl true, H, I, rfl, q⟩
def gIsBB (neg : Bool) : PV → PV → Option PV
  | p, .bl c => gIsB neg c p
  | _, _ => none
theorem v2_isB {K : PySem.W.Frag} {neg : Bool} : V2 K (rIsBN neg) (gIsBB neg) := by
  intro S H x y p q z Q s rx ry e k
  cases q with
  | bl c =>
    cases ry
    cases p with
    | bl b => cases rx; cases e; exact ⟨c, rfl, .inl ⟨b, rfl, k _ S H (Step.refl s) (.bl _)⟩⟩
    | non => cases rx; cases e; exact ⟨c, rfl, .inr ⟨rfl, k _ S H (Step.refl s) (.bl _)⟩⟩
    | _ => cases e
  | _ => cases p <;> cases e
theorem isB_sc {neg : Bool} : ∀ p q z, gIsBB neg p q = some z → z.sc = true := by
  intro p q z e
  cases q <;> cases p <;> first | (cases e; done) | (cases e; rfl)
theorem cr_isB : CmpR X .Is (rIsBN false) (gIsBB false) := ⟨op_isBN, v2_isB, isB_sc⟩
theorem cr_isNotB : CmpR X .IsNot (rIsBN true) (gIsBB true) := ⟨op_isNotBN, v2_isB, isB_sc⟩
theorem de_isi (T : String) (B : Bi X.mg) (ha : DE X W e da) (hmT : X.mg x = none) (hb : bootBuiltins x = some (.type T)) (hg : Gl X "isinstance" := by rfl) (hgT : Gl X x := by rfl) (hn : x ≠ "__name__" := by decide) (hdb : (x == ("__debug__" : Str)) = false := by decide)
    (h1 : starEach [e, .Name x p2] X.env = (false, eval e X.env) :: starEach [.Name x p2] X.env := by rfl) (h2 : starEach [.Name x p2] X.env = (false, eval (.Name x p2) X.env) :: starEach [] X.env := by rfl) (hpl : (backTo pos (starEach [.Name x p2] X.env)).any (·.1) = false := by rfl) :
    DE X W (.Call (.Name "isinstance" p) [e, .Name x p2] [] pos) (d1 (gIsi T) da) :=
  DE.of (pe_callB call_isi hg B.isinstance (by decide +kernel) (pa_cons ha (pa_cons (pe_bltn (v := .ty T) hgT hmT hb rfl hn hdb) pa_nil h2) h1) (by decide) (by decide) h1 hpl) (eo_isi canon_ok)
theorem de_isi2 (T U : String) {y : Str} {j : Nat} {p4 : Pos} (B : Bi X.mg) (ha : DE X W e da) (hmT : X.mg x = none) (hb : bootBuiltins x = some (.type T)) (hmU : X.mg y = none) (hbU : bootBuiltins y = some (.type U)) (hg : Gl X "isinstance" := by rfl) (hgT : Gl X x := by rfl) (hgU : Gl X y := by rfl)
    (hn : x ≠ "__name__" := by decide) (hdb : (x == ("__debug__" : Str)) = false := by decide) (hn2 : y ≠ "__name__" := by decide) (hdb2 : (y == ("__debug__" : Str)) = false := by decide)
    (h1 : starEach [e, .Tuple [.Name x p2, .Name y p3] j p4] X.env = (false, eval e X.env) :: starEach [.Tuple [.Name x p2, .Name y p3] j p4] X.env := by rfl) (h2 : starEach [.Tuple [.Name x p2, .Name y p3] j p4] X.env = (false, eval (.Tuple [.Name x p2, .Name y p3] j p4) X.env) :: starEach [] X.env := by rfl)
    (h3 : starEach [.Name x p2, .Name y p3] X.env = (false, eval (.Name x p2) X.env) :: starEach [.Name y p3] X.env := by rfl) (h4 : starEach [.Name y p3] X.env = (false, eval (.Name y p3) X.env) :: starEach [] X.env := by rfl) (hpl : (backTo pos (starEach [.Tuple [.Name x p2, .Name y p3] j p4] X.env)).any (·.1) = false := by rfl) :
    DE X W (.Call (.Name "isinstance" p) [e, .Tuple [.Name x p2, .Name y p3] j p4] [] pos) (d1 (gIsi2 T U) da) :=
  DE.of (pe_callB call_isiT hg B.isinstance (by decide +kernel) (pa_cons ha (pa_cons (pe_tup (pa_cons (pe_bltn (v := .ty T) hgT hmT hb rfl hn hdb) (pa_cons (pe_bltn (v := .ty U) hgU hmU hbU rfl hn2 hdb2) pa_nil h4) h3)) pa_nil h2) h1) (by decide) (by decide) h1 hpl) (eo_isi2 canon_ok)
/-! ### dicts: syntax -/
theorem de_dgv (i : Nat) (c : Ctx X W k) (ho : PE X (.Name x p) (tVar i)) (hi : DE X W e db) (hs : NoSl e := by intro _ _; rfl) : DE X W (.Subscript (.Name x p) e pos) (d2l gDG i db) := DE.of (pe_dget (by have := c.hu; omega) ho hi hs) (eo_dgv canon_ok)
theorem de_dget2v {f : Expr} (i : Nat) (c : Ctx X W k) (ho : PE X (.Name x np) (tVar i)) (he : DE X W e db) (hf : DE X W f dc) (m : M2 X (.Name x np) "get" apos e f cpos := by exact ⟨rfl, rfl, rfl, rfl⟩) : DE X W (.Call (.Attribute (.Name x np) "get" apos) [e, f] [] cpos) (dGet2v i db dc) :=
  DE.of (pe_dget2 (by have := c.hu; omega) ho he hf m) (eo_dget2v canon_ok canon_ok)
theorem de_din (i : Nat) (c : Ctx X W k) (he : DE X W e db) (ho : PE X (.Name x p) (tVar i)) (h1 : behindInMarks .In (.Name x p) = false := by rfl) : DE X W (.Compare e [.In] [.Name x p] pos) (d2r (gDHas false) db i) := DE.of (pe_cmp (pc_din (by have := c.hu; omega) he ho) h1) (eo_din canon_ok)
theorem de_dnotin (i : Nat) (c : Ctx X W k) (he : DE X W e db) (ho : PE X (.Name x p) (tVar i)) (h1 : behindInMarks .NotIn (.Name x p) = false := by rfl) : DE X W (.Compare e [.NotIn] [.Name x p] pos) (d2r (gDHas true) db i) := DE.of (pe_cmp (pc_dnotin (by have := c.hu; omega) he ho) h1) (eo_dnotin canon_ok)
theorem dt_din (i : Nat) (c : Ctx X W k) (he : DE X W e db) (ho : PE X (.Name x p) (tVar i)) (h1 : behindInMarks .In (.Name x p) = false := by rfl) : DT X W (.Compare e [.In] [.Name x p] pos) (bVal (d2r (gDHas false) db i)) := DT.of (pt_cmp (pc_din (by have := c.hu; omega) he ho) h1) (to_val (eo_din canon_ok))
theorem dt_dnotin (i : Nat) (c : Ctx X W k) (he : DE X W e db) (ho : PE X (.Name x p) (tVar i)) (h1 : behindInMarks .NotIn (.Name x p) = false := by rfl) : DT X W (.Compare e [.NotIn] [.Name x p] pos) (bVal (d2r (gDHas true) db i)) := DT.of (pt_cmp (pc_dnotin (by have := c.hu; omega) he ho) h1) (to_val (eo_dnotin canon_ok))
/-! ### join -/
def gJoin : PV → PV → Option PV
  | .str a, .lst ps => (strs? ps).bind fun ys => if (ys.map (·.length)).sum + ys.length * a.length ≤ 16777216 then some (.str (Txt.join a ys)) else none
  | _, _ => none
def dJoin (da db : Den) : Den := fun ρ => (da ρ).bind fun p ρ1 => match p with
  | .str _ => (db ρ1).bind fun q ρ2 => opt (gJoin p q) ρ2
  | _ => .bad
theorem de_join {o : Expr} (ho : DE X W o da) (he : DE X W e db) (hs : starEach [e] X.env = [(false, eval e X.env)] := by rfl) (hbase : attributeBase o "join" X.env (eval o X.env) = eval o X.env := by rfl) (hline : (apos.endLine == pos.line) = true := by rfl) :
    DE X W (.Call (.Attribute o "join" apos) [e] [] pos) (dJoin da db) := DE.of (pe_join ho he hs hbase hline) fun H₀ S₀ M S σ H ρ Q ab hp =>
  canon_ok.bind (Rl := rV X.K) (Rl' := rV X.K) ab hp fun p ρ1 v S1 H1 _ a1 _ r1 hp => by
    cases p with
    | str a =>
      cases r1
      refine ⟨⟨a, rfl⟩, canon_ok.bind (Rl := rV X.K) (Rl' := rV X.K) a1 hp fun q ρ2 y S2 H2 _ a2 s2 r2 hp => ?_⟩
      cases q with
      | lst ps =>
        cases e1 : strs? ps with
        | none => simp only [gJoin, e1] at hp; exact hp.elim
        | some ys =>
          by_cases hz : (ys.map (·.length)).sum + ys.length * a.length ≤ 16777216
          · simp only [gJoin, e1, Option.bind_some, if_pos hz] at hp
            cases r2 with
            | lst h1 h2 =>
              rw [h2.strs e1] at h1
              exact ⟨a, _, ys, rfl, rfl, .inl (.inl (.inl (a2.sub _ _ h1))), hz, hp _ S2 H2 a2 (.str _)⟩
          · simp only [gJoin, e1, Option.bind_some, if_neg hz] at hp; exact hp.elim
      | _ => exact hp.elim
    | _ => exact hp.elim
/-! ### list(x), tuple(x) -/
def gListOf : List PV → Option PV
  | [.lst ps] => some (.lst ps)
  | [.tup ps] => some (.lst ps)
  | [.ktup ps] => some (.lst ps)
  | _ => none
theorem vn_listOf {K : PySem.W.Frag} : VNF K (fun xs H Q => ∃ p ys, xs = [.ref p] ∧ (SqL K H p ys ∨ SqT K H p ys) ∧ ∀ l, H l = none → Q (.ref l) (upd H l (.lst ys))) gListOf := by
  intro S H xs ps z Q s rx e k
  unfold gListOf at e
  split at e
  · cases rx with
    | cons r1 r2 =>
      cases r2; cases e
      cases r1 with
      | lst h1 h2 => exact ⟨_, _, rfl, .inl (.inl (.inl (s _ _ h1))), fun l n => k l (.lst _) n h2⟩
  · cases rx with
    | cons r1 r2 =>
      cases r2; cases e
      cases r1 with
      | tup h1 h2 => exact ⟨_, _, rfl, .inr (.inl (.inl (s _ _ h1))), fun l n => k l (.lst _) n h2⟩
  · cases rx with
    | cons r1 r2 =>
      cases r2; cases e
      cases r1 with
      | ktup h1 h2 => exact ⟨_, _, rfl, .inr (Same.tupK s h1), fun l n => k l (.lst _) n h2⟩
  · cases e
theorem df_listOf (B : Bi X.mg) (ha : DA X W (e :: es) dl) (hg : Gl X "list" := by rfl) (he : starEach (e :: es) X.env = (false, eval e X.env) :: starEach es X.env := by rfl) (hpl : (backTo pos (starEach es X.env)).any (·.1) = false := by rfl) :
    DF X W (.Call (.Name "list" p) (e :: es) [] pos) (dN gListOf dl) := DF.of (pe_callTy call_list_of hg B.list (by decide +kernel) ha (by decide) (by decide) he hpl) (fo_n canon_ok vn_listOf)
end
end PL

set_option Elab.async false
set_option linter.all false
set_option maxRecDepth 100000
set_option maxHeartbeats 4000000
namespace PL
open PySem PySem.Spec L2
open PyProof.Rows hiding St
set_option autoImplicit false

/-! ### displays of dicts -/
def dPairs : List (Den × Den) → Env → Option (List (PV × PV) × Env)
  | [], ρ => some ([], ρ)
  | (dk, dv) :: r, ρ => match dk ρ with
    | .ok p ρ1 => match dv ρ1 with
      | .ok q ρ2 => (match dPairs r ρ2 with
        | some (ps, ρ3) => some ((p, q) :: ps, ρ3)
        | none => none)
      | _ => none
    | _ => none
def nodupK : List PV → Bool
  | [] => true
  | p :: ps => (key? p).isSome && !ps.any (fun q => kEq q p) && nodupK ps
def dDisp (prs : List (Den × Den)) : Den := fun ρ => match dPairs prs (lockE [] ρ) with
  | some (ps, ρ2) => if noOw ρ2 && nodupK (ps.map (·.1)) && decide (ps.length ≤ 15) then .ok (.dic false (ps.map (·.1)) (ps.map (·.2))) (backE [] ρ ρ2) else .bad
  | none => .bad
section
variable {K : PySem.W.Frag} {mg : Str → Option Value} {W : WX}
theorem mergeK_nodup : ∀ (more acc : List (Key × V)), nodupK (more.map fun p => keyPV p.1) = true → (∀ p ∈ more, ∀ q ∈ acc, q.1 ≠ p.1) → mergeK acc more = acc ++ more
  | [], acc, _, _ => by simp [mergeK]
  | p :: r, acc, h, h2 => by
    have h : ((key? (keyPV p.1)).isSome && !(r.map fun q => keyPV q.1).any (fun q => kEq q (keyPV p.1)) && nodupK (r.map fun q => keyPV q.1)) = true := h
    simp only [Bool.and_eq_true, Bool.not_eq_true'] at h
    obtain ⟨⟨_, h3⟩, h4⟩ := h
    have e : putK acc p.1 p.2 = acc ++ [(p.1, p.2)] := by
      unfold putK
      rw [if_neg]
      intro z
      obtain ⟨q, hq, e⟩ := List.any_eq_true.mp z
      exact h2 p List.mem_cons_self q hq (of_decide_eq_true e)
    show mergeK (putK acc p.1 p.2) r = _
    rw [e, mergeK_nodup r _ h4 fun q hq w hw => ?_, List.append_assoc]
    · rfl
    · rcases List.mem_append.mp hw with hw | hw
      · exact h2 q (List.mem_cons_of_mem _ hq) w hw
      · rw [List.mem_singleton.mp hw]
        intro z
        have := List.any_eq_false.mp h3 (keyPV q.1) (List.mem_map.mpr ⟨q, hq, rfl⟩)
        apply this
        unfold kEq
        rw [kk?_key, kk?_key]
        have z' : p.1 = q.1 := z
        simp [z']
inductive POk (K : PySem.W.Frag) (mg : Str → Option Value) (W : WX) : List (TE × TE) → List (Den × Den) → Prop
  | nil : POk K mg W [] []
  | cons {tk tv : TE} {dk dv : Den} {r : List (TE × TE)} {dr : List (Den × Den)} : EOk K mg W tk dk → EOk K mg W tv dv → POk K mg W r dr → POk K mg W ((tk, tv) :: r) ((dk, dv) :: dr)
theorem pairs_run {trs : List (TE × TE)} {prs : List (Den × Den)} (h : POk K mg W trs prs) : ∀ {H₀ S₀ : Hp} {M : Addr → Prop} {S H : Hp} {σ : L2.St} {ρ ρ2 : Env} {ps : List (PV × PV)} {Q : List (V × V) → Hp → Prop}, Abs K H₀ S₀ M S σ H ρ → dPairs prs ρ = some (ps, ρ2) →
    (∀ vs S' H', Abs K H₀ S₀ M S' σ H' ρ2 → Same S S' → RepL K S' (ps.map (·.1)) (vs.map (·.1)) → RepL K S' (ps.map (·.2)) (vs.map (·.2)) → Q vs H') → tPairs trs σ H Q := by
  induction h with
  | nil =>
    intro H₀ S₀ M S H σ ρ ρ2 ps Q ab e hq
    cases e
    exact hq [] S H ab (Same.refl _) .nil .nil
  | @cons tk tv dk dv r dr h1 h2 _ ih =>
    intro H₀ S₀ M S H σ ρ ρ2 ps Q ab e hq
    unfold dPairs at e
    cases e1 : dk ρ with
    | bad => simp only [e1] at e; cases e
    | exc x ρ1 => simp only [e1] at e; cases e
    | ok p ρ1 =>
      simp only [e1] at e
      cases e2 : dv ρ1 with
      | bad => simp only [e2] at e; cases e
      | exc x ρ1 => simp only [e2] at e; cases e
      | ok q ρ3 =>
        simp only [e2] at e
        cases e3 : dPairs dr ρ3 with
        | none => simp only [e3] at e; cases e
        | some pr =>
          obtain ⟨ps', ρ4⟩ := pr
          simp only [e3] at e
          cases e
          refine h1 H₀ S M S σ H ρ _ ab.rebase ?_
          rw [e1]
          intro v S1 H1 a1 r1
          refine h2 H₀ S1 M S1 σ H1 ρ1 _ a1.rebase ?_
          rw [e2]
          intro u S2 H2 a2 r2
          have a2' := ab.unbase (a1.unbase a2)
          refine ih (ab.unbase (a1.unbase a2)) e3 fun vs S3 H3 a3 s3 r3 r4 => hq ((v, u) :: vs) S3 H3 a3 ((a1.base.trans a2.base).trans s3) (.cons ?_ r3) (.cons ?_ r4)
          · exact (Rep.up (a2.base.trans s3) r1)
          · exact Rep.up s3 r2
theorem nodupK_keys : ∀ {ps : List PV}, nodupK ps = true → ∃ ks : List Key, ps = ks.map keyPV
  | [], _ => ⟨[], rfl⟩
  | p :: ps, h => by
    have h : ((key? p).isSome && !ps.any (fun q => kEq q p) && nodupK ps) = true := h
    simp only [Bool.and_eq_true] at h
    obtain ⟨ks, e⟩ := nodupK_keys h.2
    obtain ⟨k, hk⟩ := Option.isSome_iff_exists.mp h.1.1
    exact ⟨k :: ks, by rw [key?_some hk, e]; rfl⟩
theorem fo_disp {trs : List (TE × TE)} {prs : List (Den × Den)} (h : POk K mg (fun _ _ _ _ => False) trs prs) : FOk K mg W (tDisp trs) (dDisp prs) := fun H₀ S₀ M S σ H ρ Q ab hp => by
  unfold dDisp at hp
  cases e : dPairs prs (lockE [] ρ) with
  | none => rw [e] at hp; exact hp.elim
  | some pr =>
    obtain ⟨ps, ρ2⟩ := pr
    rw [e] at hp
    by_cases hc : (noOw ρ2 && nodupK (ps.map (·.1)) && decide (ps.length ≤ 15)) = true
    · simp only [if_pos hc] at hp
      simp only [Bool.and_eq_true] at hc
      obtain ⟨⟨hc0, hc1⟩, hc2⟩ := hc
      intro D hD
      have ab2 := ab.step (Step.hid (o := .dK []) ab.sub hD)
      have aE := ab2.enter []
      have nL : ¬ Lent σ ρ D := fun ⟨i, s, p, h1, h2, h3⟩ => by
        obtain ⟨c, o, k1, _, _, _, k5, _⟩ := ab.own i s p h1 h2
        rw [h3] at k1
        cases k1
        rw [hD] at k5; cases k5
      have sD : S D = none := Same.free ab.sub hD
      refine pairs_run h aE e fun vs S' H' a1 s1 r1 r2 => ?_
      have kD : H' D = some (.dK []) := a1.keep D _ upd_same nL
      have sD' : S' D = none := by
        cases q : S' D with
        | none => rfl
        | some o =>
          rcases a1.grow D o q with z | z | ⟨us, z⟩
          · rw [sD] at z; cases z
          · rw [upd_same] at z; cases z
          · subst z
            have z := (a1.sub _ _ q).symm.trans kD
            cases z
      obtain ⟨ks, ek⟩ := nodupK_keys hc1
      rw [ek] at r1
      have ev := r1.keyVs
      have hl : ks.length = vs.length := by
        have := congrArg List.length ev
        simpa using this.symm
      have e3 : ∃ kvs : List (Key × V), vs = kvs.map (fun kv => (kV kv.1, kv.2)) ∧ kvs.map (·.1) = ks ∧ kvs.map (·.2) = vs.map (·.2) := by
        clear r1 r2 ek a1 kD sD' s1
        induction ks generalizing vs with
        | nil => cases vs with
          | nil => exact ⟨[], rfl, rfl, rfl⟩
          | cons v vs => cases hl
        | cons k ks ih => cases vs with
          | nil => cases hl
          | cons v vs =>
            rw [List.map_cons, List.map_cons] at ev
            injection ev with e1 e2
            obtain ⟨kvs, z1, z2, z3⟩ := ih vs e2 (by simpa using hl)
            refine ⟨(k, v.2) :: kvs, ?_, by rw [List.map_cons, z2], by rw [List.map_cons, z3]; rfl⟩
            rw [List.map_cons, ← z1]
            obtain ⟨v1, v2⟩ := v
            have e1 : v1 = kV k := e1
            rw [e1]
      obtain ⟨kvs, z1, z2, z3⟩ := e3
      have hlk : ps.length = kvs.length := by
        have h1 := congrArg List.length ek
        have h2 := congrArg List.length z2
        simp only [List.length_map] at h1 h2
        omega
      refine ⟨kD, kvs, z1, by rw [← hlk]; exact of_decide_eq_true hc2, ?_⟩
      have em : mergeK [] kvs = kvs := by
        rw [mergeK_nodup kvs [] ?_ (fun _ _ q hq => nomatch hq)]
        · rfl
        · have : (kvs.map fun p => keyPV p.1) = ps.map (·.1) := by
            rw [ek, ← z2, List.map_map]
            rfl
          rw [this]; exact hc1
      rw [em]
      have aX := ab2.exit (own := []) a1
      have hn : ∀ (j : Nat) s q, (backE [] ρ ρ2)[j]? = some s → s.own? = some q → σ[j]? ≠ some (some (.ref D)) := fun j s q ej es z => by
        obtain ⟨c, o, k1, k2, k3, k4, k5, k6⟩ := aX.own j s q ej es
        rw [z] at k1
        cases k1
        rcases backE_get ej (by intro w; subst w; cases es) with ⟨_, q', hq, _⟩ | ⟨h1, t, t', h2, h3, h4⟩
        · subst hq; cases es
        · have ht : ∃ p, t.own? = some p := by
            cases t <;> cases t' <;> simp [Sl.back] at h4 <;> subst h4 <;> first | (cases es; done) | exact ⟨_, rfl⟩
          obtain ⟨p, hp'⟩ := ht
          exact nL ⟨j, t, p, h2, hp', z⟩
      have aF := aX.other (o := .dK kvs) (ab.none0 hD) sD' hn
      refine hp (.ref D) S' _ aF ⟨D, .dK kvs, rfl, ab.none0 hD, sD', upd_same, ⟨?_, ?_⟩, hn⟩
      · rw [ek, ← z2, List.map_map]
        rfl
      · rw [z3]; exact r2
    · simp only [if_neg hc] at hp
      exact hp.elim
end
section
variable {X : Cx} {W : WX} {pos : Pos}
theorem Ctx.wf {k : Nat} (c : Ctx X W k) : Ctx X (fun _ _ _ _ => False) k := ⟨c.calm, c.nd, c.room, takes0⟩
/-- the pairs of a display -/
structure DPs (X : Cx) (W : WX) (pos : Pos) (keys : List (Option Expr)) (values : List Expr) (prs : List (Den × Den)) : Prop where
  ex : ∃ trs, PPs X pos keys values trs ∧ POk X.K X.mg (fun _ _ _ _ => False) trs prs
theorem dps_nil : DPs X W pos [] [] [] := ⟨⟨[], pps_nil, .nil⟩⟩
theorem dps_cons {k v : Expr} {ks : List (Option Expr)} {vs : List Expr} {dk dv : Den} {prs : List (Den × Den)} (hk : DE X (fun _ _ _ _ => False) k dk) (hv : DE X (fun _ _ _ _ => False) v dv) (h : DPs X W pos ks vs prs) : DPs X W pos (some k :: ks) (v :: vs) ((dk, dv) :: prs) := by
  obtain ⟨trs, h1, h2⟩ := h.ex
  exact ⟨⟨_, pps_cons hk hv h1, .cons canon_ok canon_ok h2⟩⟩
theorem df_disp {keys : List (Option Expr)} {values : List Expr} {prs : List (Den × Den)} (h : DPs X W pos keys values prs) (hall : keys.all (·.isSome) = true := by rfl) (hl : keys.length = values.length := by rfl) (h0 : keys ≠ [] := by intro z; cases z) (h15 : keys.length ≤ 15 := by decide) :
    DF X W (.Dict keys values pos) (dDisp prs) := by
  obtain ⟨trs, h1, h2⟩ := h.ex
  exact DF.of (pe_disp h1 hall hl h0 h15) (fo_disp h2)
theorem df_dnewK : DF X W (.Dict [] [] pos) (dC (.dic false [] [])) := DF.of pe_dnewK fun H₀ S₀ M S σ H ρ Q ab hp p n => hp _ S _ (ab.fresh (p := .dic false [] []) (o := .dK []) n ⟨rfl, .nil⟩).1 (ab.fresh (p := .dic false [] []) (o := .dK []) n ⟨rfl, .nil⟩).2
theorem df_dnewT : DF X W (.Dict [] [] pos) (dC (.dic true [] [])) := DF.of pe_dnewT fun H₀ S₀ M S σ H ρ Q ab hp p n => hp _ S _ (ab.fresh (p := .dic true [] []) (o := .dT []) n ⟨rfl, .nil⟩).1 (ab.fresh (p := .dic true [] []) (o := .dT []) n ⟨rfl, .nil⟩).2
end
end PL

set_option Elab.async false
set_option linter.all false
set_option maxRecDepth 100000
set_option maxHeartbeats 4000000
namespace PL
open PySem PySem.Spec L2
open PyProof.Rows hiding St
set_option autoImplicit false

/-! ### defs of the head -/
abbrev FnP (K : PySem.W.Frag) (x qual : Str) (st : Stmt) (f : Addr) (fd : FuncData) : Prop := FunD K x qual (defArgs st) (defBody st) (defScope st) [] [] f fd
abbrev Bnd (x qual : Str) (st : Stmt) (ps : List Str) : Prop := ∀ (kV doc pm : Value) (an : Option Addr) (cdv ct : Value) (us : List Value), us.length = ps.length → bindArgs (PySem.W.fnOf x qual (defArgs st) (defBody st) (defScope st) .none kV doc pm an cdv ct) ⟨us, []⟩ = pure (ps.zip us)
theorem fn_okD {P : Program} {w : World} {K : PySem.W.Frag} {mg : Str → Option Value} {base : Heap} {x qual : Str} {st : Stmt} {f : Addr} {fd : FuncData} {N ps : List Str} {k : Nat} {io fr : Bool} {d : DenS} (F : FnP K x qual st f fd) (S : FnScope N ps (defScope st))
    (hl : ps.length ≤ N.length)
    (hbody : ∀ (cdv : Value) (A : Around) (outer : List PySem.Env) (s : Shared) (H : Hp) (E : XK), Ctx (cxOf (L2.CX P w) P w K mg base N qual (defScope st) f cdv A outer s H E) (fun cls dd _ H => E cls dd H) k → Po (cxOf (L2.CX P w) P w K mg base N qual (defScope st) f cdv A outer s H E) →
      DSs (cxOf (L2.CX P w) P w K mg base N qual (defScope st) f cdv A outer s H E) (fun cls dd _ H => E cls dd H) fr (defBody st) d) :
    FnOk P w K mg base (L2.CX P w) (k + 1) f fd ps (spD K mg io fr ps.length (runD io fr ps.length N.length d)) := by
  refine F.ok S (fun vs H Q E h => h.1) fun cdv A outer s H vs Q E hr h => ⟨_, hbody cdv A outer s H E ⟨rfl, S.nd, hr, takes_of rfl rfl rfl rfl⟩ (passes_of rfl), ?_⟩
  exact body_ok canonS_ok hl h
theorem fd_okD {P : Program} {w : World} {K : PySem.W.Frag} {mg : Str → Option Value} {base : Heap} {x qual : Str} {st : Stmt} {f : Addr} {fd : FuncData} {N ps : List Str} {k : Nat} {io fr : Bool} {d : DenS} (F : FnP K x qual st f fd) (hm : mg x = some (.ref f)) (S : FnScope N ps (defScope st))
    (hb : Bnd x qual st ps) (hl : ps.length ≤ N.length)
    (hbody : ∀ (cdv : Value) (A : Around) (outer : List PySem.Env) (s : Shared) (H : Hp) (E : XK), Ctx (cxOf (L2.CX P w) P w K mg base N qual (defScope st) f cdv A outer s H E) (fun cls dd _ H => E cls dd H) k → Po (cxOf (L2.CX P w) P w K mg base N qual (defScope st) f cdv A outer s H E) →
      DSs (cxOf (L2.CX P w) P w K mg base N qual (defScope st) f cdv A outer s H E) (fun cls dd _ H => E cls dd H) fr (defBody st) d) :
    Fd P w K mg base x (k + 1) io fr ps.length (runD io fr ps.length N.length d) := by
  refine ⟨⟨f, fd, ps, fn_okD F S hl hbody, hm, F.kp, F.bindsN hb⟩, fun qs h => ?_⟩
  unfold runD at h
  by_cases e : qs.length = ps.length
  · exact e
  · rw [if_neg e] at h
    exact absurd rfl h
/-- an error class whose __init__ calls its base's and sets the field -/
abbrev rStr : R2 := fun x y H Q => ∃ i j, x = .str i ∧ y = .str j ∧ i.length + j.length ≤ sizeLine ∧ Q (.str (i ++ j)) H
def tIni (K : PySem.W.Frag) (txt fld : Str) : TS := tSeq (tDrop (tVeI K (tCons (tVar 0) (tCons (tOp rStr (tC (.str txt)) (tVar 1)) tNil)))) (tOst K fld (tVar 0) (tVar 1))
theorem ec_ok {P : Program} {w : World} {K : PySem.W.Frag} {mg : Str → Option Value} {base : Heap} {x fld txt p1 p2 qual : Str} {st : Stmt} {fd : FuncData} (E : EcK K x fld) (hm : mg x = some (.ref (He.ga K x)))
    (F : FnP K "__init__" qual st (He.ma K (He.ga K x) "__init__") fd) (S : FnScope [p1, p2] [p1, p2] (defScope st)) (hb : Bnd "__init__" qual st [p1, p2]) (ht : txt.length ≤ 1000)
    (hbody : ∀ (cdv : Value) (A : Around) (outer : List PySem.Env) (s : Shared) (H : Hp) (E : XK), PSs (cxOf (L2.CX P w) P w K mg base [p1, p2] qual (defScope st) (He.ma K (He.ga K x) "__init__") cdv A outer s H E) (defBody st) (tIni K txt fld)) :
    Ec P w K mg base x fld := by
  refine ⟨E, hm, fd, [p1, p2], ?_, F.bindsN hb⟩
  refine F.ok S (fun vs H Q E h => ?_) fun cdv A outer s H vs Q E hr h => ⟨_, hbody cdv A outer s H E, ?_⟩
  · obtain ⟨a, C, z, e, _⟩ := h
    rw [e]; rfl
  · obtain ⟨a, C, z, rfl, hz, O, hf, ea, hq⟩ := h
    refine ⟨_, rfl, _, rfl, txt, z, rfl, rfl, ?_, a, C, [.str (txt ++ z)], rfl, by simp, O, ea, ?_⟩
    · rw [sizeLine_eq]; omega
    · refine ⟨.str z, rfl, .ref a, rfl, a, C, rfl, O, hf, .inl ⟨ea, fun dx hd hne => hq dx hd hne⟩⟩

/-! ### the law's def -/
def spTop (K : PySem.W.Frag) : Sp := fun vs H Q _ => ∃ (a : Addr) (ns : List Int), vs = [.ref a] ∧ ns.length ≤ 63 ∧ SqL K H a (ns.map V.int) ∧ ∀ H', Q (.bl true) H'
theorem repInts {K : PySem.W.Frag} {S : Hp} : ∀ ns : List Int, RepL K S (ns.map PV.int) (ns.map V.int)
  | [] => .nil
  | n :: ns => .cons (.int n) (repInts ns)
theorem fd_top {P : Program} {w : World} {K : PySem.W.Frag} {mg : Str → Option Value} {base : Heap} {k : Nat} {F : List PV → FR} {f : Addr} {fd : FuncData} {ps : List Str} (h : FnOk P w K mg base (L2.CX P w) k f fd ps (spD K mg false false 1 F)) (hF : ∀ ns : List Int, ns.length ≤ 63 → ∃ q, F [.klst (ns.map .int)] = .ok (.bl true) q) :
    FnOk P w K mg base (L2.CX P w) k f fd ps (spTop K) := h.imp fun vs H Q E q => by
  obtain ⟨a, ns, rfl, hl, hs, hq⟩ := q
  obtain ⟨q, e⟩ := hF ns hl
  refine ⟨rfl, H, fun _ => False, [.klst (ns.map .int)], fun _ _ z => z.elim, ⟨rfl, Same.refl _, Same.refl _, fun _ _ e => .inl e, fun _ _ e _ => e, fun b o e => ⟨o, e⟩, fun i p e => ?_, fun i s p e es => ?_, fun i j s t p q c e es => ?_⟩, (fun z => by cases z), ?_⟩
  · cases i with
    | zero =>
      cases e
      exact ⟨.ref a, rfl, .klst hs (repInts ns)⟩
    | succ i => simp [argSl] at e
  · cases i with
    | zero => cases e; cases es
    | succ i => simp [argSl] at e
  · cases i with
    | zero => cases e; cases es
    | succ i => simp [argSl] at e
  · rw [e]
    intro v S' H' _ r
    have r : Rep K S' (.bl true) v := by simpa [RetRep] using r
    cases r
    exact hq H'
end PL
namespace PL
open PySem PySem.Spec L2
open PyProof.Rows hiding St
set_option autoImplicit false
/-! ### except X as n: return n.field -/
theorem clause {X : Cx} {n x fld : Str} {i : Nat} {q q' p1 p2 p3 : Pos} {hs : List ExceptHandler} {cl : List Clause} (E : Ec X.prog X.w X.K X.mg X.base x fld) (h : Clauses X n hs cl) (hg : Gl X x := by rfl) (hN : X.N[i]? = some n := by rfl) (hv : Vis X.env.scope n := by first | exact Or.inl rfl | exact Or.inr (Or.inl rfl) | exact Or.inr (Or.inr rfl))
    (hb : attributeBase (.Name n p1) fld X.env (eval (.Name n p1) X.env) = eval (.Name n p1) X.env := by rfl) (hd : (n == ("__debug__" : Str)) = false := by decide) (hcd : (n == ("__classdict__" : Str)) = false := by decide) (hdb : (x == ("__debug__" : Str)) = false := by decide) :
    Clauses X n (.ExceptHandler (some (.Name x q)) (some n) [.Return (some (.Attribute (.Name n p1) fld p2)) p3] q' :: hs) ((.ref (He.ga X.K x), fun a cls d => tRet (tXf a cls d (He.ga X.K x) fld (tVar i))) :: cl) :=
  .cons ⟨hg, hdb, .inl E.at_⟩ (fun a ob cls d pn hz hf => pss_one (ps_ret (pe_xf E.k.xf E.k.fld hz hf (pe_var hN hv hd hcd) hb))) h
/-- nothing is promised -/
theorem dss_bad {X : Cx} {W : WX} {fr : Bool} {sts : List Stmt} : DSs X W fr sts (fun _ => .bad) := ⟨fun pins s σ H D I q => by
  obtain ⟨_, _, _, _, _, _, z⟩ := q
  exact z.elim⟩
end PL

set_option Elab.async false
set_option linter.all false
set_option maxRecDepth 100000
set_option maxHeartbeats 4000000
namespace PL
open PySem PySem.Spec L2 He
set_option autoImplicit false
/-! ### what is looked at behind the top: the statics too -/
def frY (g : Addr → Option Obj) (n : Nat) : PySem.W.Frag := frG g [cStatics] ++ frT g (asD g n)
theorem frY_in {n : Nat} {h : Heap} : (frY h.get? n).In h := fun a o e => by
  have m := lookup_mem (show (frG h.get? [cStatics] ++ frT h.get? (asD h.get? n)).lookup a = some o from e)
  rcases List.mem_append.mp m with m | m
  · exact frG_mem m
  · exact frG_mem (List.mem_filter.mp m).1
abbrev AlY : Type := AlT × Bool
def obsY (n : Nat) (fa : List Fa) (fn : List DefD) (ex : PySem.W.Frag → Bool) (g : Addr → Option Obj) : AlY := (obsT fa fn [] (frY g n), ex (frY g n))
structure SaysY (fa : List Fa) (fn : List DefD) (ex : PySem.W.Frag → Bool) (w : World) (K : PySem.W.Frag) : Prop where
  t : SaysT fa fn [] w K
  more : ex K = true
def hookY (n : Nat) (fa : List Fa) (fn : List DefD) (ex : PySem.W.Frag → Bool) : PySem.W.Hook where
  α := AlY
  obs := fun s => obsY n fa fn ex s.heap.get?
  val := fun w => (valT fn [] w, true)
  says := fun w h => ∃ K : PySem.W.Frag, K.In h ∧ SaysY fa fn ex w K
  of := fun _ _ e => ⟨_, frY_in, congrArg (fun z : AlY => z.1) e, congrArg (fun z : AlY => z.2) e⟩
  keeps := fun _ _ _ ⟨K, hK, c⟩ k => ⟨K, PySem.W.Frag.In.keeps hK k, c⟩
theorem obsY_eq {n : Nat} {fa : List Fa} {fn : List DefD} {ex : PySem.W.Frag → Bool} {g : Addr → Option Obj} {s : Shared} (h : ∀ a, g a = s.heap.get? a) : obsY n fa fn ex g = (hookY n fa fn ex).obs s := by
  have e : g = s.heap.get? := funext h
  rw [e] <;> rfl
/-- some world's -/
def CXA (P : Program) : CXT := fun outer H s E u s' => ∃ w, L2.CX P w outer H s E u s'
theorem FnOk.anyW {P : Program} {w : World} {K : PySem.W.Frag} {mg : Str → Option Value} {base : Heap} {k : Nat} {f : Addr} {fd : FuncData} {ps : List Str} {sp : Sp} (F : FnOk P w K mg base (L2.CX P w) k f fd ps sp) : FnOk P w K mg base (CXA P) k f fd ps sp :=
  ⟨F.len, fun A outer s H args us vs Q E hr he hb hv hs => codeAny_mono (F.run A outer s H args us vs Q E hr he hb hv hs) fun r s' z => by
    cases r with
    | ok fin => cases fin <;> exact z
    | error e => exact ⟨w, z⟩⟩
theorem CXA.none {P : Program} (H : Hp) (s : Shared) (e : Value) (s' : Shared) (h : CXA P [] H s (fun _ _ _ => False) e s') : False := by
  obtain ⟨w, _, _, _, _, _, _, _, _, _, _, _, _, z⟩ := h
  exact z
end PL

set_option Elab.async false
set_option linter.all false
set_option maxRecDepth 100000
set_option maxHeartbeats 4000000
namespace PL
open PySem PySem.Spec L2
set_option autoImplicit false
/-! ### reading denotations: rules for simp -/
section
variable {p q z : PV} {ρ ρ1 : Env} {i j : Nat} {da db dc : Den} {dt du : DenB} {dl dr : DenL} {dla : DenO} {a b : DenS} {g g' : PV → PV → Option PV} {F : List PV → FR} {s : Sl} {r : Env} {own : List Nat} {dg : DenG} {dh : DenO} {T : String}
@[simp] theorem ap_dC : dC p ρ = .ok p ρ := id rfl
@[simp] theorem ap_dVar : dVar i ρ = match ρ[i]? with
  | some (.sh p) => .ok p ρ
  | some (.ow p) => .ok p (ρ.set i (.sh p))
  | _ => .bad := id rfl
@[simp] theorem ap_slot : slot ρ i = match ρ[i]? with
  | some s => s.pv?
  | none => none := by unfold slot; cases ρ[i]? <;> rfl
@[simp] theorem pv_sh : Sl.pv? (.sh p) = some p := id rfl
@[simp] theorem pv_ow : Sl.pv? (.ow p) = some p := id rfl
@[simp] theorem pv_io : Sl.pv? (.io p) = some p := id rfl
@[simp] theorem ap_own : ownAt ρ i = match ρ[i]? with
  | some (.ow p) => some (.ow p, p)
  | some (.io p) => some (.io p, p)
  | _ => none := id rfl
@[simp] theorem with_ow : Sl.with (.ow p) q = .ow q := id rfl
@[simp] theorem with_io : Sl.with (.io p) q = .io q := id rfl
@[simp] theorem ap_d1 {g : PV → Option PV} : d1 g da ρ = (da ρ).bind fun p ρ1 => opt (g p) ρ1 := id rfl
@[simp] theorem ap_d2 : d2 g da db ρ = (da ρ).bind fun p ρ1 => (db ρ1).bind fun q ρ2 => opt (g p q) ρ2 := id rfl
@[simp] theorem ap_d2l : d2l g i db ρ = match slot ρ i with
  | none => .bad
  | some _ => (db ρ).bind fun q ρ1 => match slot ρ1 i with
    | none => .bad
    | some p => opt (g p q) ρ1 := id rfl
@[simp] theorem ap_d2r : d2r g da i ρ = (da ρ).bind fun p ρ1 => match slot ρ1 i with
    | none => .bad
    | some q => opt (g p q) ρ1 := id rfl
@[simp] theorem ap_d1v {g : PV → Option PV} : d1v g i ρ = match slot ρ i with
    | some p => opt (g p) ρ
    | _ => .bad := id rfl
@[simp] theorem ap_dNil : dNil ρ = .ok [] ρ := id rfl
@[simp] theorem ap_dCons : dCons da dl ρ = (da ρ).bind fun p ρ1 => (dl ρ1).bind fun ps ρ2 => .ok (p :: ps) ρ2 := id rfl
@[simp] theorem ap_dN {g : List PV → Option PV} : dN g dl ρ = (dl ρ).bind fun ps ρ1 => opt (g ps) ρ1 := id rfl
@[simp] theorem ap_dIf : dIf dt da db ρ = (dt ρ).bind fun b ρ1 => if b = true then da ρ1 else db ρ1 := id rfl
@[simp] theorem ap_bAnd : bAnd dt du ρ = (dt ρ).bind fun b ρ1 => if b = true then du ρ1 else .ok false ρ1 := id rfl
@[simp] theorem ap_bOr : bOr dt du ρ = (dt ρ).bind fun b ρ1 => if b = true then .ok true ρ1 else du ρ1 := id rfl
@[simp] theorem ap_bNot : bNot dt ρ = (dt ρ).bind fun b ρ1 => .ok (!b) ρ1 := id rfl
@[simp] theorem ap_bVal : bVal da ρ = (da ρ).bind fun p ρ1 => opt p.bool? ρ1 := id rfl
@[simp] theorem ap_bool (b : Bool) : PV.bool? (.bl b) = some b := id rfl
@[simp] theorem ap_bTru : bTru da ρ = (da ρ).bind fun p ρ1 => opt (truth p) ρ1 := id rfl
@[simp] theorem ap_bTruV : bTruV i ρ = match slot ρ i with
  | some p => opt (truth p) ρ
  | none => .bad := id rfl
@[simp] theorem ap_bYes : bYes ρ = .ok true ρ := id rfl
@[simp] theorem ap_dAndT : dAndT da db ρ = (da ρ).bind fun p ρ1 => match truth p with
  | none => .bad
  | some b => if b = true then db ρ1 else .ok p ρ1 := id rfl
@[simp] theorem ap_dOrT : dOrT da db ρ = (da ρ).bind fun p ρ1 => match truth p with
  | none => .bad
  | some b => if b = true then .ok p ρ1 else db ρ1 := id rfl
@[simp] theorem ap_dNotT : dNotT da ρ = (da ρ).bind fun p ρ1 => opt ((truth p).map fun b => .bl (!b)) ρ1 := id rfl
@[simp] theorem ap_dChain : dChain g g' da db dc ρ = (da ρ).bind fun p ρ1 => (db ρ1).bind fun q ρ2 => match g p q with
  | some (.bl true) => (dc ρ2).bind fun r ρ3 => opt (g' q r) ρ3
  | some (.bl false) => .ok (.bl false) ρ2
  | _ => .bad := id rfl
@[simp] theorem ap_dLst : dLst dl ρ = (dl ρ).bind fun ps ρ1 => if ps.length ≤ sizeLine then .ok (.lst ps) ρ1 else .bad := id rfl
@[simp] theorem ap_dTup : dTup dl ρ = (dl ρ).bind fun ps ρ1 => if ps.length ≤ sizeLine then .ok (.tup ps) ρ1 else .bad := id rfl
@[simp] theorem ap_oNone : oNone ρ = .ok none ρ := id rfl
@[simp] theorem ap_dMut {g : PV → List PV → Option (PV × PV)} : dMut T g i dl ρ = match ownAt ρ i with
  | none => .bad
  | some (_, p0) => if isT T p0 = true then (dl ρ).bind fun ps ρ1 => match ownAt ρ1 i with
    | none => .bad
    | some (s, p) => match g p ps with
      | none => .bad
      | some (q, z) => .ok z (ρ1.set i (s.with q))
    else .bad := id rfl
@[simp] theorem ap_dMut0 {g : PV → List PV → Option (PV × PV)} : dMut0 T g i ρ = match ownAt ρ i with
  | none => .bad
  | some (s, p) => if isT T p = true then (match g p [] with
      | none => .bad
      | some (q, z) => .ok z (ρ.set i (s.with q))) else .bad := id rfl
@[simp] theorem ap_isT {ps : List PV} : isT "list" (.lst ps) = true := id rfl
@[simp] theorem ap_dCall : dCall F dl ρ = (dl ρ).bind fun ps ρ1 => match F ps with
  | .bad => .bad
  | .exc x => .exc x ρ1
  | .ok p _ => .ok p ρ1 := id rfl
@[simp] theorem ap_dCallIo : dCallIo F i dl ρ = match ownAt ρ i with
  | none => .bad
  | some _ => (dl ρ).bind fun ps ρ1 => match ownAt ρ1 i with
    | none => .bad
    | some (s, p) => match F (p :: ps) with
      | .bad => .bad
      | .exc x => .exc x (ρ1.set i .un)
      | .ok z q => .ok z (ρ1.set i (s.with q)) := id rfl
@[simp] theorem ap_dLc {di : DenL} : dLc own di dg dt da ρ = (di ρ).bind fun xs ρ1 => match lcLoop own dg dt da xs (lockE own ρ1) with
  | some (ys, ρ2) => if ys.length ≤ 1000000 then .ok (.lst ys) (backE own ρ1 ρ2) else .bad
  | none => .bad := id rfl
/-! statements -/
@[simp] theorem ap_sNx : sNx ρ = .nx ρ := id rfl
@[simp] theorem ap_sBk : sBk ρ = .bk ρ := id rfl
@[simp] theorem ap_sCt : sCt ρ = .ct ρ := id rfl
@[simp] theorem ap_sSeq : sSeq a b ρ = match a ρ with
  | .nx ρ1 => b ρ1
  | r => r := id rfl
@[simp] theorem ap_sExpr : sExpr da ρ = (da ρ).bindS fun _ ρ1 => .nx ρ1 := id rfl
@[simp] theorem ap_sRet : sRet da ρ = (da ρ).bindS fun p ρ1 => .rt p ρ1 := id rfl
@[simp] theorem ap_sRetN : sRetN ρ = .rt .non ρ := id rfl
@[simp] theorem ap_sRetO : sRetO i ρ = match ρ[i]? with
  | some (.ow p) => .rt p (ρ.set i .un)
  | _ => .bad := id rfl
@[simp] theorem ap_sIf : sIf dt a b ρ = (dt ρ).bindS fun c ρ1 => if c = true then a ρ1 else b ρ1 := id rfl
@[simp] theorem ap_sSet : sSet i da ρ = (da ρ).bindS fun p ρ1 => .nx (ρ1.set i (.sh p)) := id rfl
@[simp] theorem ap_sSetF : sSetF i da ρ = (da ρ).bindS fun p ρ1 => .nx (ρ1.set i (.ow p)) := id rfl
@[simp] theorem ap_sAsg : sAsg da dg ρ = (da ρ).bindS fun p ρ1 => match dg p ρ1 with
  | some ρ2 => .nx ρ2
  | none => .bad := id rfl
@[simp] theorem ap_sAug : sAug i g da ρ = match slot ρ i with
  | none => .bad
  | some _ => (da ρ).bindS fun q ρ1 => match slot ρ1 i with
    | none => .bad
    | some p => match g p q with
      | some z => .nx (ρ1.set i (.sh z))
      | none => .bad := id rfl
@[simp] theorem ap_sSub {g : PV → PV → PV → Option PV} : sSub g i db da ρ = (da ρ).bindS fun e ρ1 => match ownAt ρ1 i with
  | none => .bad
  | some _ => (db ρ1).bindS fun k ρ2 => match ownAt ρ2 i with
    | none => .bad
    | some (s, p) => match g p k e with
      | none => .bad
      | some q => .nx (ρ2.set i (s.with q)) := id rfl
@[simp] theorem ap_sFor {di : DenL} : sFor di dg b ρ = (di ρ).bindS fun xs ρ1 => dLoop dg b xs ρ1 := id rfl
@[simp] theorem ap_sRaise {x f : Str} : sRaise x f da ρ = (da ρ).bindS fun p ρ1 => match p with
  | .str z => if z.length ≤ 1000 then .exc ⟨x, f, .str z⟩ ρ1 else .bad
  | _ => .bad := id rfl
@[simp] theorem ap_gName : gName i p ρ = some (ρ.set i (.sh p)) := id rfl
@[simp] theorem ap_gTup {gs : List PV → Env → Option Env} {ps : List PV} : gTup gs (.tup ps) ρ = gs ps ρ := id rfl
@[simp] theorem ap_gsCons {gs : List PV → Env → Option Env} {ps : List PV} : gsCons dg gs (p :: ps) ρ = (dg p ρ).bind (gs ps) := id rfl
@[simp] theorem ap_gsNil : gsNil [] ρ = some ρ := id rfl
@[simp] theorem ap_iSeq : iSeq da ρ = (da ρ).bind fun p ρ1 => opt (seqOf p) ρ1 := id rfl
@[simp] theorem ap_seqL {ps : List PV} : seqOf (.lst ps) = some ps := id rfl
@[simp] theorem ap_seqT {ps : List PV} : seqOf (.tup ps) = some ps := id rfl
@[simp] theorem ap_seqS {x : Str} : seqOf (.str x) = some (signs x) := id rfl
def rg1 (ps : List PV) (ρ1 : Env) : Rs (List PV) := match ps with
  | [.int j] => if decide (-(2 ^ 62) ≤ j) && decide (j < 2 ^ 62) then .ok (rangeP 0 j.toNat) ρ1 else .bad
  | _ => .bad
def rg2 (ps : List PV) (ρ1 : Env) : Rs (List PV) := match ps with
  | [.int i, .int j] => if (decide (-(2 ^ 62) ≤ i) && decide (i < 2 ^ 62)) && (decide (-(2 ^ 62) ≤ j) && decide (j < 2 ^ 62)) then .ok (rangeP i (j - i).toNat) ρ1 else .bad
  | _ => .bad
@[simp] theorem ap_iR1 : iR1 dl ρ = (dl ρ).bind fun ps ρ1 => rg1 ps ρ1 := id rfl
@[simp] theorem ap_iR2 : iR2 dl ρ = (dl ρ).bind fun ps ρ1 => rg2 ps ρ1 := id rfl
theorem rg1_ok {j : Int} (h1 : -1000000000 ≤ j) (h2 : j ≤ 1000000000) : rg1 [.int j] ρ = .ok (rangeP 0 j.toNat) ρ := by
  have h1 : decide (-(2 ^ 62) ≤ j) = true := decide_eq_true (by omega)
  have h2 : decide (j < 2 ^ 62) = true := decide_eq_true (by omega)
  simp only [rg1, h1, h2]
  rfl
theorem rg2_ok {i j : Int} (h1 : -1000000000 ≤ i) (h2 : i ≤ 1000000000) (h3 : -1000000000 ≤ j) (h4 : j ≤ 1000000000) : rg2 [.int i, .int j] ρ = .ok (rangeP i (j - i).toNat) ρ := by
  have h1 : decide (-(2 ^ 62) ≤ i) = true := decide_eq_true (by omega)
  have h2 : decide (i < 2 ^ 62) = true := decide_eq_true (by omega)
  have h3 : decide (-(2 ^ 62) ≤ j) = true := decide_eq_true (by omega)
  have h4 : decide (j < 2 ^ 62) = true := decide_eq_true (by omega)
  simp only [rg2, h1, h2, h3, h4]
  rfl
theorem rg1_nat {n : Nat} (h : n ≤ 1000000000) : rg1 [.int (n : Int)] ρ = .ok (rangeP 0 n) ρ := by
  rw [rg1_ok (by omega) (by omega)]; rfl
/-! operations -/
@[simp] theorem ap_addI (i j : Int) : gAdd (.int i) (.int j) = some (.int (i + j)) := id rfl
@[simp] theorem ap_addS (x y : Str) : gAdd (.str x) (.str y) = if x.length + y.length ≤ sizeLine then some (.str (x ++ y)) else none := id rfl
@[simp] theorem ap_addL (x y : List PV) : gAdd (.lst x) (.lst y) = if x.length + y.length ≤ sizeLine then some (.lst (x ++ y)) else none := id rfl
@[simp] theorem ap_augI (i j : Int) : gAugAdd (.int i) (.int j) = some (.int (i + j)) := id rfl
@[simp] theorem ap_augS (x y : Str) : gAugAdd (.str x) (.str y) = if x.length + y.length ≤ sizeLine then some (.str (x ++ y)) else none := id rfl
@[simp] theorem ap_subI (i j : Int) : gSub (.int i) (.int j) = some (.int (i - j)) := id rfl
@[simp] theorem ap_mulI (i j : Int) : gMul (.int i) (.int j) = if smallI i || smallI j then some (.int (i * j)) else none := id rfl
@[simp] theorem ap_fdivI (i j : Int) : gFdiv (.int i) (.int j) = if decide (0 < j) && decide (j < 1073741824) then some (.int (i / j)) else none := id rfl
@[simp] theorem ap_modI (i j : Int) : gMod (.int i) (.int j) = if decide (0 < j) then some (.int (i % j)) else none := id rfl
@[simp] theorem ap_powI (i j : Int) : gPow (.int i) (.int j) = if decide (0 ≤ j) && decide (j ≤ 1000000) && decide (i.natAbs < 2 ^ 64) then some (.int (i ^ j.toNat)) else none := id rfl
@[simp] theorem ap_negI (i : Int) : gNeg (.int i) = some (.int (-i)) := id rfl
@[simp] theorem ap_cmpI (f : Int → Int → Bool) (i j : Int) : gCmpI f (.int i) (.int j) = some (.bl (f i j)) := id rfl
@[simp] theorem ap_intI (i : Int) : gInt [.int i] = some (.int i) := id rfl
@[simp] theorem ap_intB (b : Bool) : gInt [.bl b] = some (.int (if b then 1 else 0)) := id rfl
@[simp] theorem ap_absI (i : Int) : gAbs [.int i] = some (.int (if i < 0 then -i else i)) := id rfl
@[simp] theorem ap_max2 (i j : Int) : gMax2 [.int i, .int j] = some (.int (if j > i then j else i)) := id rfl
@[simp] theorem ap_min2 (i j : Int) : gMin2 [.int i, .int j] = some (.int (if j < i then j else i)) := id rfl
@[simp] theorem ap_lenL (ps : List PV) : gLen (.lst ps) = some (.int ps.length) := id rfl
@[simp] theorem ap_lenK (ps : List PV) : gLen (.klst ps) = some (.int ps.length) := id rfl
@[simp] theorem ap_lenT (ps : List PV) : gLen (.tup ps) = some (.int ps.length) := id rfl
@[simp] theorem ap_lenS (x : Str) : gLen (.str x) = if x.length ≤ sizeLine then some (.int x.length) else none := id rfl
@[simp] theorem ap_lenN : gLenN [p] = gLen p := id rfl
@[simp] theorem ap_ixL (ps : List PV) (i : Int) : gIx (.lst ps) (.int i) = atI ps i := id rfl
@[simp] theorem ap_ixT (ps : List PV) (i : Int) : gIx (.tup ps) (.int i) = atI ps i := id rfl
@[simp] theorem ap_ixK (ps : List PV) (i : Int) : gIx (.klst ps) (.int i) = atI ps i := id rfl
@[simp] theorem ap_ixS (z : Str) (i : Int) : gIx (.str z) (.int i) = if z.length ≤ sizeLine then (atI z.cps.toList i).map fun c => .str ⟨#[c]⟩ else none := id rfl
@[simp] theorem ap_app (ps : List PV) (p : PV) : gAppend (.lst ps) [p] = if ps.length < sizeLine then some (.lst (ps ++ [p]), .non) else none := id rfl
@[simp] theorem ap_pop (ps : List PV) : gPop (.lst ps) [] = (ps[ps.length - 1]?).map fun p => (.lst ps.dropLast, p) := id rfl
@[simp] theorem ap_rev (ps : List PV) : gReverse (.lst ps) [] = some (.lst ps.reverse, .non) := id rfl
@[simp] theorem ap_setL (ps : List PV) (i : Int) (e : PV) : gSetL (.lst ps) (.int i) e = (ixN ps.length i).map fun j => .lst (ps.set j e) := id rfl
@[simp] theorem ap_cat (ps qs : List PV) : gCat (.lst ps) (.lst qs) = if ps.length + qs.length ≤ sizeLine then some (.lst (ps ++ qs)) else none := id rfl
end
end PL

set_option Elab.async false
set_option linter.all false
set_option maxRecDepth 100000
set_option maxHeartbeats 4000000
namespace PL
open PySem PySem.Spec L2
set_option autoImplicit false
/-! ### loops -/
theorem seq_nx {a b : DenS} {ρ ρ1 : Env} (h : a ρ = .nx ρ1) : sSeq a b ρ = b ρ1 := by rw [ap_sSeq, h]

theorem dLoop_inv {tgt : DenG} {body : DenS} {items : List PV} (Inv : Nat → Env → Prop) (h : ∀ i x ρ, items[i]? = some x → Inv i ρ → ∃ ρ1 ρ2, tgt x ρ = some ρ1 ∧ (body ρ1 = .nx ρ2 ∨ body ρ1 = .ct ρ2) ∧ Inv (i + 1) ρ2) {ρ0 : Env} (h0 : Inv 0 ρ0) :
    ∃ ρ, dLoop tgt body items ρ0 = .nx ρ ∧ Inv items.length ρ := by
  induction items generalizing Inv ρ0 with
  | nil => exact ⟨ρ0, rfl, h0⟩
  | cons x xs ih =>
    obtain ⟨ρ1, ρ2, e1, e2, h2⟩ := h 0 x ρ0 rfl h0
    obtain ⟨ρ, e3, h3⟩ := ih (fun i => Inv (i + 1)) (fun i y ρ hy hi => h (i + 1) y ρ (by simpa using hy) hi) h2
    refine ⟨ρ, ?_, h3⟩
    unfold dLoop
    rw [e1]
    rcases e2 with e2 | e2
    · simp only [e2]; exact e3
    · simp only [e2]; exact e3
/-- .. or it ends the def -/
theorem dLoop_or {tgt : DenG} {body : DenS} {items : List PV} (Inv : Nat → Env → Prop) (R : RS → Prop) (h : ∀ i x ρ, items[i]? = some x → Inv i ρ → ∃ ρ1, tgt x ρ = some ρ1 ∧ ((∃ ρ2, (body ρ1 = .nx ρ2 ∨ body ρ1 = .ct ρ2) ∧ Inv (i + 1) ρ2) ∨ (∃ ρ2, body ρ1 = .bk ρ2 ∧ R (.nx ρ2)) ∨ (∃ p ρ2, body ρ1 = .rt p ρ2 ∧ R (.rt p ρ2)) ∨ ∃ e ρ2, body ρ1 = .exc e ρ2 ∧ R (.exc e ρ2)))
    (hR : ∀ ρ, Inv items.length ρ → R (.nx ρ)) {ρ0 : Env} (h0 : Inv 0 ρ0) : R (dLoop tgt body items ρ0) := by
  induction items generalizing Inv ρ0 with
  | nil => exact hR _ h0
  | cons x xs ih =>
    obtain ⟨ρ1, e1, h2⟩ := h 0 x ρ0 rfl h0
    unfold dLoop
    rw [e1]
    rcases h2 with ⟨ρ2, e2, h2⟩ | ⟨ρ2, e2, h2⟩ | ⟨p, ρ2, e2, h2⟩ | ⟨e, ρ2, e2, h2⟩
    · have z := ih (fun i => Inv (i + 1)) (fun i y ρ hy hi => h (i + 1) y ρ (by simpa using hy) hi) (fun ρ hi => hR ρ hi) h2
      rcases e2 with e2 | e2
      · simp only [e2]; exact z
      · simp only [e2]; exact z
    · simp only [e2]; exact h2
    · simp only [e2]; exact h2
    · simp only [e2]; exact h2
/-- a comprehension, its items one by one -/
theorem lcLoop_inv {own : List Nat} {tgt : DenG} {test : DenB} {elt : Den} {items : List PV} (Inv : Nat → List PV → Env → Prop)
    (h : ∀ i x ys ρ, items[i]? = some x → Inv i ys ρ → ∃ ρ1, tgt x ρ = some ρ1 ∧ ((∃ ρ2 y ρ3, test ρ1 = .ok true ρ2 ∧ elt ρ2 = .ok y ρ3 ∧ noOw ρ3 = true ∧ Inv (i + 1) (ys ++ [y]) (wipeE own ρ3)) ∨ (∃ ρ2, test ρ1 = .ok false ρ2 ∧ noOw ρ2 = true ∧ Inv (i + 1) ys (wipeE own ρ2)))) :
    ∀ {ρ0 : Env} {ys0 : List PV}, Inv 0 ys0 ρ0 → ∃ ys ρ, lcLoop own tgt test elt items ρ0 = some (ys, ρ) ∧ Inv items.length (ys0 ++ ys) ρ := by
  induction items generalizing Inv with
  | nil => intro ρ0 ys0 h0; exact ⟨[], ρ0, rfl, by rw [List.append_nil]; exact h0⟩
  | cons x xs ih =>
    intro ρ0 ys0 h0
    obtain ⟨ρ1, e1, h2⟩ := h 0 x ys0 ρ0 rfl h0
    have h' : ∀ i y ys ρ, xs[i]? = some y → Inv (i + 1) ys ρ → _ := fun i y ys ρ hy hi => h (i + 1) y ys ρ (by simpa using hy) hi
    rcases h2 with ⟨ρ2, y, ρ3, e2, e3, e4, h2⟩ | ⟨ρ2, e2, e4, h2⟩
    · obtain ⟨ys, ρ, e5, h5⟩ := ih (fun i => Inv (i + 1)) h' h2
      refine ⟨y :: ys, ρ, ?_, by rw [List.append_assoc] at h5; exact h5⟩
      unfold lcLoop
      simp only [e1, e2, e3, e4, e5, if_true]
    · obtain ⟨ys, ρ, e5, h5⟩ := ih (fun i => Inv (i + 1)) h' h2
      refine ⟨ys, ρ, ?_, h5⟩
      unfold lcLoop
      simp only [e1, e2, e4, e5, if_true]
theorem rangeP_get {lo : Int} {n i : Nat} {x : PV} (h : (rangeP lo n)[i]? = some x) : i < n ∧ x = .int (lo + i) := by
  unfold rangeP at h
  rw [List.getElem?_map] at h
  cases e : (List.range n)[i]? with
  | none => rw [e] at h; cases h
  | some c =>
    rw [e] at h; cases h
    have hi := (List.getElem?_eq_some_iff.mp e).1
    rw [List.length_range] at hi
    rw [List.getElem?_range hi] at e
    cases e
    exact ⟨hi, rfl⟩
@[simp] theorem rangeP_len {lo : Int} {n : Nat} : (rangeP lo n).length = n := by simp [rangeP]
/-! ### the deck -/
def den_take : DenS :=
  (sSeq (sIf (bVal (d2 gEq (d1v gLen 0) (dC (.int 0)))) (sRet (dC (.int 0))) sNx)
    (sRet (dMod (dN gInt (dCons (dMut0 "list" gPop 0) dNil)) (dVar 1))))
def F_take : List PV → FR := runD true false 2 2 den_take
def B_deck_2 : DenS :=
  (sSeq (sExpr (dMut "list" gAppend 3 (dCons (dMod (dN gInt (dCons (dVar 7) dNil)) (dC (.int 1000003))) dNil)))
    (sSet 7 (dFdiv (dVar 7) (dC (.int 1000003)))))
def B_deck_3 : DenS :=
  (sSeq (sSet 4 (dMod (dN gInt (dCons (dAdd (dAdd (dMul (dVar 4) (dC (.int 69621))) (dVar 8)) (dC (.int 1))) dNil)) (dC (.int 2147483629))))
    (sExpr (dMut "list" gAppend 3 (dCons (dMod (dN gInt (dCons (dFdiv (dVar 4) (dC (.int 5))) dNil)) (dC (.int 1000003))) dNil))))
def B_deck_1 : DenS :=
  (sSeq (sSet 6 (dC (.int 0)))
    (sSeq (sIf (bVal (d2 gLt (dVar 5) (dN gLenN (dCons (dVar 0) dNil)))) (sSet 6 (d2 gIx (dVar 0) (dVar 5))) sNx)
    (sSeq (sSet 7 (dN gAbs (dCons (dVar 6) dNil)))
    (sIf (bVal (d2 gGe (dVar 7) (dPow (dC (.int 10)) (dC (.int 30))))) (sFor (iR1 (dCons (dVar 2) dNil)) (gName 8) B_deck_2) (sSeq (sSet 4 (dMod (dN gInt (dCons (dAdd (dAdd (dAdd (dMul (dVar 4) (dC (.int 48271))) (dMul (dC (.int 2)) (dVar 7))) (dN gInt (dCons (d2 gLt (dVar 6) (dC (.int 0))) dNil))) (dVar 5)) dNil)) (dC (.int 2147483647))))
    (sFor (iR1 (dCons (dVar 2) dNil)) (gName 8) B_deck_3))))))
def den_deck : DenS :=
  (sSeq (sSetF 3 (dLst dNil))
    (sSeq (sSet 4 (dAdd (dC (.int 7)) (dN gLenN (dCons (dVar 0) dNil))))
    (sSeq (sFor (iR1 (dCons (dVar 1) dNil)) (gName 5) B_deck_1)
    (sSeq (sExpr (dMut0 "list" gReverse 3))
    (sRetO 3)))))
def F_deck : List PV → FR := runD false true 3 9 den_deck
def den_plain (F_plain : List PV → FR) : DenS :=
  (sSeq (sIf (bTru (d1 (gIsi2 "tuple" "list") (dVar 0))) (sRet (dAdd (dLst (dCons (d1 (gIsi "list") (dVar 0)) dNil)) (dLc ([(("item" : Str), 1)].map (·.2)) (iSeq (dVar 0)) (gName 1) bYes (dCall F_plain (dCons (dVar 1) dNil))))) sNx)
    (sSeq (sIf (bOr (bVal (d2 (gIsN false) (dVar 0) (dC .non))) (bTru (d1 (gIsi "bool") (dVar 0)))) (sRet (d2 gIx (dLst (dCons (dC (.str ("None" : Str))) (dCons (dC (.str ("False" : Str))) (dCons (dC (.str ("True" : Str))) dNil)))) (dAdd (dN gInt (dCons (d2 (gIsN true) (dVar 0) (dC .non)) dNil)) (dN gInt (dCons (d2 (gIsBB false) (dVar 0) (dC (.bl true))) dNil))))) sNx)
    (sSeq (sIf (bTru (d1 (gIsi2 "int" "str") (dVar 0))) (sRet (dLst (dCons (d1 (gIsi "str") (dVar 0)) (dCons (dVar 0) dNil)))) sNx)
    (sRet (dC (.str ("another" : Str)))))))
def F_plain_ : Nat → List PV → FR
  | 0 => runD false false 1 2 (fun _ => .bad)
  | n + 1 => runD false false 1 2 (den_plain (F_plain_ n))
/-- a deck: the next card first -/
def dk (ds : List Int) : PV := .lst (ds.reverse.map .int)
def tk : List Int → Int → Int × List Int
  | [], _ => (0, [])
  | x :: ds, m => (x % m, ds)
theorem tk_lt {ds : List Int} {m : Int} (h : 0 < m) : 0 ≤ (tk ds m).1 ∧ (tk ds m).1 < m := by
  cases ds with
  | nil => exact ⟨Int.le_refl 0, h⟩
  | cons x ds => exact ⟨Int.emod_nonneg _ (by omega), Int.emod_lt_of_pos _ h⟩
@[simp] theorem shaped_int (i : Int) : SeqAt.shaped (PV.toD (.int i)) = true := rfl
theorem eqv_int (i j : Int) : PyData.eqv (.int i) (.int j) = decide (i = j) := by
  simp only [PyData.eqv]
  by_cases h : i = j <;> simp [h]
@[simp] theorem pvEq_int (i j : Int) : pvEq (.int i) (.int j) = decide (i = j) := eqv_int i j
@[simp] theorem ap_eqI (i j : Int) : gEq (.int i) (.int j) = some (.bl (decide (i = j))) := by
  unfold gEq; simp
@[simp] theorem ap_neI (i j : Int) : gNe (.int i) (.int j) = some (.bl (!decide (i = j))) := by
  unfold gNe; simp
theorem F_take_eq {ds : List Int} {m : Int} (h : 0 < m) : F_take [dk ds, .int m] = .ok (.int (tk ds m).1) (dk (tk ds m).2) := by
  cases ds with
  | nil => simp [F_take, den_take, runD, argSl, dk, tk, fin0, io0]
  | cons x ds =>
    have h0 : ¬ ((ds.length : Int) + 1 = 0) := by omega
    simp [F_take, den_take, runD, argSl, dk, tk, fin0, io0, h, h0]

theorem ixN_nat {n i : Nat} (h : i < n) : ixN n (i : Int) = some i := by
  unfold ixN
  rw [if_pos (by omega), if_pos (by omega)]
  simp
theorem atI_nat {α : Type} {xs : List α} {i : Nat} (h : i < xs.length) : L2.atI xs (i : Int) = some xs[i] := by
  unfold L2.atI
  rw [ixN_nat h]
  exact List.getElem?_eq_getElem h
/-- the deck's slots -/
def dkE (sc : PV) (c e : Nat) (ds : List Int) (seed : Int) (s5 s6 s7 s8 : Sl) : Env := [.sh sc, .sh (.int c), .sh (.int e), .ow (.lst (ds.map .int)), .sh (.int seed), s5, s6, s7, s8]
theorem app_int {ds : List Int} {x : Int} (h : ds.length < sizeLine) : gAppend (.lst (ds.map .int)) [.int x] = some (.lst ((ds ++ [x]).map .int), .non) := by
  rw [ap_app, List.length_map, if_pos h, List.map_append]; rfl
theorem deck_one2 {sc : PV} {c e i : Nat} {ds : List Int} {seed rest : Int} {s5 s6 s8 : Sl} (h : ds.length < sizeLine) :
    B_deck_2 (dkE sc c e ds seed s5 s6 (.sh (.int rest)) s8) = .nx (dkE sc c e (ds ++ [rest % 1000003]) seed s5 s6 (.sh (.int (rest / 1000003))) s8) := by
  simp [B_deck_2, dkE, h]
theorem deck_in2 {sc : PV} {c e : Nat} {ds : List Int} {seed : Int} {s5 s6 s8 : Sl} {rest : Int} (hr : ds.length + e ≤ sizeLine) (he : e ≤ 1000000000) :
    ∃ (ds' : List Int) (s7 s8' : Sl), ds'.length = ds.length + e ∧ sFor (iR1 (dCons (dVar 2) dNil)) (gName 8) B_deck_2 (dkE sc c e ds seed s5 s6 (.sh (.int rest)) s8) = .nx (dkE sc c e ds' seed s5 s6 s7 s8') := by
  obtain ⟨ρ, h1, ds', rest', s8', h2, h3⟩ := dLoop_inv (tgt := gName 8) (body := B_deck_2) (items := rangeP 0 e) (ρ0 := dkE sc c e ds seed s5 s6 (.sh (.int rest)) s8)
    (fun i ρ => ∃ (ds' : List Int) (rest : Int) (s8 : Sl), ds'.length = ds.length + i ∧ ρ = dkE sc c e ds' seed s5 s6 (.sh (.int rest)) s8)
    (fun i x ρ hx hi => by
      obtain ⟨hie, rfl⟩ := rangeP_get hx
      obtain ⟨ds', rest, s8, hl, rfl⟩ := hi
      exact ⟨_, _, rfl, .inl (deck_one2 (i := 0) (by omega)), ⟨_, _, _, by rw [List.length_append, hl]; rfl, rfl⟩⟩) ⟨ds, rest, s8, rfl, rfl⟩
  refine ⟨ds', .sh (.int rest'), s8', by rw [h2, rangeP_len], ?_⟩
  rw [← h3, ← h1]
  simp [dkE, rg1_nat he]
theorem deck_one3 {sc : PV} {c e : Nat} {ds : List Int} {seed j : Int} {s5 s6 s7 : Sl} (h : ds.length < sizeLine) :
    B_deck_3 (dkE sc c e ds seed s5 s6 s7 (.sh (.int j))) = .nx (dkE sc c e (ds ++ [(seed * 69621 + j + 1) % 2147483629 / 5 % 1000003]) ((seed * 69621 + j + 1) % 2147483629) s5 s6 s7 (.sh (.int j))) := by
  simp [B_deck_3, dkE, h, smallI]
theorem deck_in3 {sc : PV} {c e : Nat} {ds : List Int} {seed : Int} {s5 s6 s7 s8 : Sl} (hr : ds.length + e ≤ sizeLine) (he : e ≤ 1000000000) :
    ∃ (ds' : List Int) (seed' : Int) (s8' : Sl), ds'.length = ds.length + e ∧ sFor (iR1 (dCons (dVar 2) dNil)) (gName 8) B_deck_3 (dkE sc c e ds seed s5 s6 s7 s8) = .nx (dkE sc c e ds' seed' s5 s6 s7 s8') := by
  obtain ⟨ρ, h1, ds', seed', s8', h2, h3⟩ := dLoop_inv (tgt := gName 8) (body := B_deck_3) (items := rangeP 0 e) (ρ0 := dkE sc c e ds seed s5 s6 s7 s8)
    (fun i ρ => ∃ (ds' : List Int) (seed : Int) (s8 : Sl), ds'.length = ds.length + i ∧ ρ = dkE sc c e ds' seed s5 s6 s7 s8)
    (fun i x ρ hx hi => by
      obtain ⟨hie, rfl⟩ := rangeP_get hx
      obtain ⟨ds', seed, s8, hl, rfl⟩ := hi
      exact ⟨_, _, rfl, .inl (deck_one3 (by omega)), ⟨_, _, _, by rw [List.length_append, hl]; rfl, rfl⟩⟩) ⟨ds, seed, s8, rfl, rfl⟩
  refine ⟨ds', seed', s8', by rw [h2, rangeP_len], ?_⟩
  rw [← h3, ← h1]
  simp [dkE, rg1_nat he]
theorem deck_one1 {ns : List Int} {c e i : Nat} {ds : List Int} {seed : Int} {s6 s7 s8 : Sl} (hr : ds.length + e ≤ sizeLine) (he : e ≤ 1000000000) :
    ∃ (ds' : List Int) (seed' : Int) (s6' s7' s8' : Sl), ds'.length = ds.length + e ∧
      B_deck_1 (dkE (.klst (ns.map .int)) c e ds seed (.sh (.int (i : Nat))) s6 s7 s8) = .nx (dkE (.klst (ns.map .int)) c e ds' seed' (.sh (.int (i : Nat))) s6' s7' s8') := by
  obtain ⟨cell, h1⟩ : ∃ cell : Int, sIf (bVal (d2 gLt (dVar 5) (dN gLenN (dCons (dVar 0) dNil)))) (sSet 6 (d2 gIx (dVar 0) (dVar 5))) sNx (dkE (.klst (ns.map .int)) c e ds seed (.sh (.int (i : Nat))) (.sh (.int 0)) s7 s8) = .nx (dkE (.klst (ns.map .int)) c e ds seed (.sh (.int (i : Nat))) (.sh (.int cell)) s7 s8) := by
    by_cases h : i < ns.length
    · refine ⟨ns[i], ?_⟩
      have h1 : L2.atI (ns.map PV.int) (i : Int) = some (.int ns[i]) := by
        rw [atI_nat (by rw [List.length_map]; exact h), List.getElem_map]
      simp [dkE, h, h1]
    · refine ⟨0, ?_⟩
      simp [dkE, h]
  have h2 : sSet 6 (dC (.int 0)) (dkE (.klst (ns.map .int)) c e ds seed (.sh (.int (i : Nat))) s6 s7 s8) = .nx (dkE (.klst (ns.map .int)) c e ds seed (.sh (.int (i : Nat))) (.sh (.int 0)) s7 s8) := by simp [dkE]
  have h3 : ∀ s7, sSet 7 (dN gAbs (dCons (dVar 6) dNil)) (dkE (.klst (ns.map .int)) c e ds seed (.sh (.int (i : Nat))) (.sh (.int cell)) s7 s8) = .nx (dkE (.klst (ns.map .int)) c e ds seed (.sh (.int (i : Nat))) (.sh (.int cell)) (.sh (.int (if cell < 0 then -cell else cell))) s8) := fun s7 => by simp [dkE]
  unfold B_deck_1
  rw [ap_sSeq, h2]
  simp only
  rw [ap_sSeq, h1]
  simp only
  rw [ap_sSeq, h3]
  simp only
  generalize (if cell < 0 then -cell else cell) = rest
  by_cases hb : (10 : Int) ^ 30 ≤ rest
  · obtain ⟨ds', s7', s8', h4, h5⟩ := deck_in2 (sc := .klst (ns.map .int)) (c := c) (e := e) (ds := ds) (seed := seed) (s5 := .sh (.int (i : Nat))) (s6 := .sh (.int cell)) (s8 := s8) (rest := rest) hr he
    refine ⟨ds', seed, .sh (.int cell), s7', s8', h4, ?_⟩
    rw [← h5]
    have hb : (1000000000000000000000000000000 : Int) ≤ rest := hb
    simp [dkE, hb]
  · obtain ⟨ds', seed', s8', h4, h5⟩ := deck_in3 (sc := .klst (ns.map .int)) (c := c) (e := e) (ds := ds) (seed := (seed * 48271 + 2 * rest + (if cell < 0 then 1 else 0) + i) % 2147483647) (s5 := .sh (.int (i : Nat))) (s6 := .sh (.int cell)) (s7 := .sh (.int rest)) (s8 := s8) hr he
    refine ⟨ds', seed', .sh (.int cell), .sh (.int rest), s8', h4, ?_⟩
    rw [← h5]
    have hb : ¬ (1000000000000000000000000000000 : Int) ≤ rest := hb
    simp [dkE, hb, smallI]
theorem F_deck_eq {ns : List Int} {c e : Nat} (h : c * e ≤ sizeLine) (hc : c ≤ 1000000000) (he : e ≤ 1000000000) : ∃ ds : List Int, F_deck [.klst (ns.map .int), .int c, .int e] = .ok (dk ds) .non := by
  obtain ⟨ρ, h1, ds, seed, s5, s6, s7, s8, h2, h3⟩ := dLoop_inv (tgt := gName 5) (body := B_deck_1) (items := rangeP 0 c) (ρ0 := dkE (.klst (ns.map .int)) c e [] (7 + ns.length) .un .un .un .un)
    (fun i ρ => ∃ (ds : List Int) (seed : Int) (s5 s6 s7 s8 : Sl), ds.length = i * e ∧ ρ = dkE (.klst (ns.map .int)) c e ds seed s5 s6 s7 s8)
    (fun i x ρ hx hi => by
      obtain ⟨hic, rfl⟩ := rangeP_get hx
      obtain ⟨ds, seed, s5, s6, s7, s8, hl, rfl⟩ := hi
      have hm : (i + 1) * e ≤ c * e := Nat.mul_le_mul_right _ hic
      rw [Nat.succ_mul] at hm
      obtain ⟨ds', seed', s6', s7', s8', h4, h5⟩ := deck_one1 (ns := ns) (c := c) (e := e) (i := i) (ds := ds) (seed := seed) (s6 := s6) (s7 := s7) (s8 := s8) (by omega) he
      rw [Int.zero_add]
      exact ⟨_, _, rfl, .inl h5, ⟨ds', seed', _, s6', s7', s8', by rw [h4, hl, Nat.succ_mul], rfl⟩⟩) ⟨[], _, _, _, _, _, by simp, rfl⟩
  refine ⟨ds, ?_⟩
  subst h3
  have h4 : sFor (iR1 (dCons (dVar 1) dNil)) (gName 5) B_deck_1 (dkE (.klst (ns.map .int)) c e [] (7 + ns.length) .un .un .un .un) = .nx (dkE (.klst (ns.map .int)) c e ds seed s5 s6 s7 s8) := by
    rw [← h1]
    simp [dkE, rg1_nat hc]
  have h5 : sSeq (sExpr (dMut0 "list" gReverse 3)) (sRetO 3) (dkE (.klst (ns.map .int)) c e ds seed s5 s6 s7 s8) = .rt (dk ds) (.sh (.klst (ns.map .int)) :: .sh (.int c) :: .sh (.int e) :: .un :: .sh (.int seed) :: [s5, s6, s7, s8]) := by
    simp [dkE, dk]
  have h6 : den_deck (argSl false [.klst (ns.map .int), .int c, .int e] ++ List.replicate (9 - 3) .un) = .rt (dk ds) (.sh (.klst (ns.map .int)) :: .sh (.int c) :: .sh (.int e) :: .un :: .sh (.int seed) :: [s5, s6, s7, s8]) := by
    unfold den_deck
    rw [seq_nx (ρ1 := [.sh (.klst (ns.map .int)), .sh (.int c), .sh (.int e), .ow (.lst []), .un, .un, .un, .un, .un]) (by simp [argSl, List.replicate]),
      seq_nx (ρ1 := dkE (.klst (ns.map .int)) c e [] (7 + ns.length) .un .un .un .un) (by simp [dkE]), seq_nx h4, h5]
  simp only [F_deck, runD, h6, fin0]
  simp
end PL

set_option Elab.async false
set_option linter.all false
set_option maxRecDepth 100000
set_option maxHeartbeats 4000000
namespace PL
open PySem PySem.Spec L2
set_option autoImplicit false
/-! ### what _law_plain tells -/
mutual
def plainP : PV → PV
  | .non => .str "None"
  | .bl false => .str "False"
  | .bl true => .str "True"
  | .int i => .lst [.bl false, .int i]
  | .str x => .lst [.bl true, .str x]
  | .lst ps => .lst (.bl true :: plainPs ps)
  | .tup ps => .lst (.bl false :: plainPs ps)
  | .ktup ps => .lst (.bl false :: plainPs ps)
  | .klst _ => .str "another"
  | .dic _ _ _ => .str "another"
  | .fn _ => .str "another"
  | .obj _ _ _ => .str "another"
def plainPs : List PV → List PV
  | [] => []
  | p :: ps => plainP p :: plainPs ps
end
mutual
/-- of depth under n, of no great length -/
def okD : Nat → PV → Bool
  | 0, _ => false
  | n + 1, .lst ps => decide (ps.length ≤ 100000) && okDs n ps
  | n + 1, .tup ps => decide (ps.length ≤ 100000) && okDs n ps
  | n + 1, .ktup ps => decide (ps.length ≤ 100000) && okDs n ps
  | _ + 1, .str x => PyData.canLay0 (.str x)
  | _ + 1, .klst _ => false
  | _ + 1, .dic _ _ _ => false
  | _ + 1, .fn _ => false
  | _ + 1, .obj _ _ _ => false
  | _ + 1, _ => true
def okDs : Nat → List PV → Bool
  | _, [] => true
  | n, p :: ps => okD n p && okDs n ps
end
theorem okDs_iff {n : Nat} : ∀ {ps : List PV}, okDs n ps = true ↔ ∀ p ∈ ps, okD n p = true
  | [] => by simp [okDs]
  | p :: ps => by simp [okDs, okDs_iff (ps := ps)]
theorem plainPs_len : ∀ ps : List PV, (plainPs ps).length = ps.length
  | [] => rfl
  | p :: ps => by simp [plainPs, plainPs_len ps]
theorem plainPs_map : ∀ ps : List PV, plainPs ps = ps.map plainP
  | [] => rfl
  | p :: ps => by simp [plainPs, plainPs_map ps]
theorem lc_plain {n : Nat} {q : PV} (ih : ∀ p, okD n p = true → F_plain_ n [p] = .ok (plainP p) .non) : ∀ (ps : List PV), okDs n ps = true →
    lcLoop [1] (gName 1) bYes (dCall (F_plain_ n) (dCons (dVar 1) dNil)) ps [.sh q, .un] = some (plainPs ps, [.sh q, .un])
  | [], _ => rfl
  | p :: ps, h => by
    have h : okD n p = true ∧ okDs n ps = true := by simpa [okDs] using h
    unfold lcLoop
    simp [ih p h.1, noOw, Sl.isOw, wipeE, lc_plain ih ps h.2, plainPs]
theorem F_plain_eq : ∀ (n : Nat) (p : PV), okD n p = true → F_plain_ n [p] = .ok (plainP p) .non
  | 0, p, h => by simp [okD] at h
  | n + 1, p, h => by
    have ih := F_plain_eq n
    have seq : ∀ (ps : List PV) (q : PV) (b : Bool), seqOf q = some ps → ps.length ≤ 100000 → okDs n ps = true → gIsi2 "tuple" "list" q = some (.bl true) → gIsi "list" q = some (.bl b) → F_plain_ (n + 1) [q] = .ok (.lst (.bl b :: plainPs ps)) .non := by
      intro ps q b h1 h2 h3 h4 h5
      have h6 : ps.length ≤ 1000000 := by omega
      have h7 : 1 + ps.length ≤ sizeLine := by rw [sizeLine_eq]; omega
      have h8 : (1 : Nat) ≤ sizeLine := by rw [sizeLine_eq]; omega
      simp [F_plain_, runD, argSl, den_plain, List.replicate, fin0, h1, h4, h5, truth, lockE, Sl.lock, lc_plain ih ps h3, plainPs_len, h6, h7, h8, backE, List.range, List.range.loop, Sl.back, clean]
    cases p with
    | lst ps =>
      have h : ps.length ≤ 100000 ∧ okDs n ps = true := by simpa [okD] using h
      exact seq ps _ true rfl h.1 h.2 rfl rfl
    | tup ps =>
      have h : ps.length ≤ 100000 ∧ okDs n ps = true := by simpa [okD] using h
      exact seq ps _ false rfl h.1 h.2 rfl rfl
    | ktup ps =>
      have h : ps.length ≤ 100000 ∧ okDs n ps = true := by simpa [okD] using h
      exact seq ps _ false rfl h.1 h.2 rfl rfl
    | non => rfl
    | bl b => cases b <;> rfl
    | int i => rfl
    | str x => rfl
    | klst ps => simp [okD] at h
    | dic t ks vs => simp [okD] at h
    | fn a => simp [okD] at h
    | obj a b c => simp [okD] at h
end PL

set_option Elab.async false
set_option linter.all false
set_option maxRecDepth 100000
set_option maxHeartbeats 4000000
namespace PL
open PySem PySem.Spec L2
set_option autoImplicit false
/-! ### slots lent and given back -/
section
variable (p q : PV)
@[simp] theorem lock_un : Sl.lock .un = .un := id rfl
@[simp] theorem lock_sh : Sl.lock (.sh p) = .sh p := id rfl
@[simp] theorem lock_ow : Sl.lock (.ow p) = .io p := id rfl
@[simp] theorem lock_io : Sl.lock (.io p) = .io p := id rfl
@[simp] theorem back_ow : Sl.back (.ow p) (.io q) = .ow q := id rfl
@[simp] theorem back_io : Sl.back (.io p) (.io q) = .io q := id rfl
@[simp] theorem back_sh : Sl.back (.sh p) (.sh q) = .sh q := id rfl
@[simp] theorem back_owsh : Sl.back (.ow p) (.sh q) = .sh q := id rfl
@[simp] theorem back_un : Sl.back .un .un = .un := id rfl
@[simp] theorem clean_un : clean .un = .un := id rfl
@[simp] theorem clean_sh : clean (.sh p) = .sh p := id rfl
@[simp] theorem isOw_un : Sl.isOw .un = false := id rfl
@[simp] theorem isOw_sh : Sl.isOw (.sh p) = false := id rfl
@[simp] theorem isOw_io : Sl.isOw (.io p) = false := id rfl
@[simp] theorem noOw_nil : noOw [] = true := id rfl
@[simp] theorem noOw_cons (s : Sl) (r : Env) : noOw (s :: r) = (!s.isOw && noOw r) := id rfl
end
def sl : Option PV → Sl
  | none => .un
  | some p => .sh p
@[simp] theorem sl_lock (o : Option PV) : Sl.lock (sl o) = sl o := by cases o <;> rfl
@[simp] theorem sl_back (o : Option PV) : Sl.back (sl o) (sl o) = sl o := by cases o <;> rfl
@[simp] theorem sl_ow (o : Option PV) : Sl.isOw (sl o) = false := by cases o <;> rfl
@[simp] theorem sl_clean (o : Option PV) : clean (sl o) = sl o := by cases o <;> rfl
/-! ### texts as lists of signs -/
def st (l : List Nat) : Str := ⟨l.toArray⟩
theorem st_cps (l : List Nat) : (st l).cps.toList = l := rfl
@[simp] theorem st_len (l : List Nat) : (st l).length = l.length := by show (l.toArray).size = _; simp
@[simp] theorem st_app (l m : List Nat) : st l ++ st m = st (l ++ m) := by show (⟨l.toArray ++ m.toArray⟩ : Str) = _; simp [st]
@[simp] theorem st_inj {l m : List Nat} : (st l = st m) = (l = m) := by
  refine propext ⟨fun h => ?_, fun h => by rw [h]⟩
  have := congrArg (fun s : Str => s.cps.toList) h
  simpa [st] using this
theorem st_of (x : Str) : x = st x.cps.toList := by obtain ⟨a⟩ := x; simp [st]
@[simp] theorem st_signs (l : List Nat) : signs (st l) = l.map fun c => .str (st [c]) := by simp [signs, st]
@[simp] theorem ap_slS (l : List Nat) (lo hi : Option Int) : gSl (.str (st l)) lo hi = if l.length ≤ sizeLine then some (.str (st (cutP l lo hi))) else none := by
  have e : cutS (st l) lo hi = st (cutP l lo hi) := by
    unfold cutS cutP
    rw [st_len]
    rfl
  show (if (st l).length ≤ sizeLine then some (PV.str (cutS (st l) lo hi)) else none) = _
  rw [st_len, e]
@[simp] theorem ap_slL (l : List PV) (lo hi : Option Int) : gSl (.lst l) lo hi = some (.lst (cutP l lo hi)) := rfl
@[simp] theorem ap_slLL (l : List PV) (lo hi : Option Int) : gSlL (.lst l) lo hi = some (.lst (cutP l lo hi)) := rfl
@[simp] theorem ap_ixSt (l : List Nat) (i : Int) : gIx (.str (st l)) (.int i) = if l.length ≤ sizeLine then (L2.atI l i).map fun c => .str (st [c]) else none := by
  rw [ap_ixS, st_len, st_cps]; rfl
theorem cutP_nat {α : Type} (l : List α) (a b : Nat) : cutP l (some (a : Int)) (some (b : Int)) = (l.take b).drop a := by
  unfold cutP
  rw [HT.sIx_nat, HT.sIx_nat, List.drop_take]
  by_cases h : a ≤ l.length
  · rw [Nat.min_eq_left h]
    by_cases h2 : b ≤ l.length
    · rw [Nat.min_eq_left h2]
    · have h3 : min b l.length = l.length := Nat.min_eq_right (by omega)
      rw [h3, List.take_of_length_le (by simp), List.take_of_length_le (by simp; omega)]
  · have h3 : min a l.length = l.length := Nat.min_eq_right (by omega)
    have h4 : l.drop a = [] := List.drop_of_length_le (by omega)
    rw [h3, h4, List.drop_of_length_le (Nat.le_refl _)]
    simp
theorem cutP_lo {α : Type} (l : List α) (a : Nat) : cutP l (some (a : Int)) none = l.drop a := by
  unfold cutP
  rw [HT.sIx_nat, HT.sIx_none]
  by_cases h : a ≤ l.length
  · rw [Nat.min_eq_left h, List.take_of_length_le (by simp)]
  · have h3 : min a l.length = l.length := Nat.min_eq_right (by omega)
    rw [h3, List.drop_of_length_le (Nat.le_refl _), List.drop_of_length_le (by omega)]; simp
theorem cutP_hi {α : Type} (l : List α) (b : Nat) : cutP l none (some (b : Int)) = l.take b := by
  unfold cutP
  rw [HT.sIx_nat, HT.sIx_none, List.drop_zero, Nat.sub_zero]
  by_cases h : b ≤ l.length
  · rw [Nat.min_eq_left h]
  · have h3 : min b l.length = l.length := Nat.min_eq_right (by omega)
    rw [h3, List.take_of_length_le (Nat.le_refl _), List.take_of_length_le (by omega)]
@[simp] theorem ap_oSome {da : Den} {ρ : Env} : oSome da ρ = (da ρ).bind fun p ρ1 => opt (p.int?.map some) ρ1 := id rfl
@[simp] theorem ap_int? (i : Int) : PV.int? (.int i) = some i := rfl
@[simp] theorem ap_dSl {g : PV → Option Int → Option Int → Option PV} {da : Den} {dl dh : DenO} {ρ : Env} : dSl g da dl dh ρ = (da ρ).bind fun p ρ1 => (dl ρ1).bind fun l ρ2 => (dh ρ2).bind fun h ρ3 => opt (g p l h) ρ3 := id rfl
@[simp] theorem ap_dSlv {g : PV → Option Int → Option Int → Option PV} {i : Nat} {dl dh : DenO} {ρ : Env} : dSlv g i dl dh ρ = match slot ρ i with
  | none => .bad
  | some _ => (dl ρ).bind fun l ρ2 => (dh ρ2).bind fun h ρ3 => match slot ρ3 i with
    | none => .bad
    | some p => opt (g p l h) ρ3 := id rfl
@[simp] theorem ap_dJoin {da db : Den} {ρ : Env} : dJoin da db ρ = (da ρ).bind fun p ρ1 => match p with
  | .str _ => (db ρ1).bind fun q ρ2 => opt (gJoin p q) ρ2
  | _ => .bad := id rfl
/-! ### equal texts, shaped values -/
def asc (l : List Nat) : Prop := ∀ c ∈ l, c < 128
theorem strOk_st {l : List Nat} (h : asc l) : PyData.strOk (st l) = true := by
  show (l.toArray).all (· < 0x110000) = true
  simp only [List.all_toArray, List.all_eq_true, decide_eq_true_eq]
  intro c hc
  have := h c hc
  omega
theorem shaped_st {l : List Nat} (h : asc l) : SeqAt.shaped (PV.toD (.str (st l))) = true := by
  have e : PyData.canLay0 (.str (st l)) = true := by simp only [PyData.canLay0]; exact strOk_st h
  simp only [SeqAt.shaped, PV.toD, e, Bool.true_and, decide_eq_true_eq, PyData.depth]
  exact Nat.zero_le _
theorem eqv_str (x y : Str) : PyData.eqv (.str x) (.str y) = decide (x = y) := by
  simp only [PyData.eqv]
  by_cases h : x = y <;> simp [h]
theorem ap_eqS {l m : List Nat} (h : asc l) (h' : asc m) : gEq (.str (st l)) (.str (st m)) = some (.bl (decide (l = m))) := by
  unfold gEq pvEq
  rw [shaped_st h, shaped_st h']
  simp only [PV.toD, eqv_str, st_inj, Bool.and_self, if_true]
theorem canAll_iff : ∀ {ps : List PV}, PyData.canLayAll0 (toDs ps) = true ↔ ∀ p ∈ ps, p.toD.canLay0 = true
  | [] => by simp [toDs, PyData.canLayAll0]
  | p :: ps => by simp [toDs, PyData.canLayAll0, canAll_iff (ps := ps)]
theorem depthAll_le {n : Nat} : ∀ {ps : List PV}, (∀ p ∈ ps, p.toD.depth ≤ n) → PyData.depthAll (toDs ps) ≤ n
  | [], _ => by simp [toDs, PyData.depthAll]
  | p :: ps, h => by
    simp only [toDs, PyData.depthAll]
    exact Nat.max_le.mpr ⟨h p List.mem_cons_self, depthAll_le fun q hq => h q (List.mem_cons_of_mem _ hq)⟩
theorem plain_lay : ∀ (n : Nat) (p : PV), okD n p = true → (plainP p).toD.canLay0 = true ∧ (plainP p).toD.depth ≤ n
  | 0, p, h => by simp [okD] at h
  | n + 1, p, h => by
    have ih := plain_lay n
    have seq : ∀ (b : Bool) (ps : List PV), okDs n ps = true → (PV.lst (.bl b :: plainPs ps)).toD.canLay0 = true ∧ (PV.lst (.bl b :: plainPs ps)).toD.depth ≤ n + 1 := by
      intro b ps h3
      have h3 := okDs_iff.mp h3
      refine ⟨?_, ?_⟩
      · simp only [PV.toD, PyData.canLay0]
        rw [canAll_iff]
        intro q hq
        rcases List.mem_cons.mp hq with e | hq
        · subst e; rfl
        · rw [plainPs_map] at hq
          obtain ⟨p, hp, e⟩ := List.mem_map.mp hq
          subst e
          exact (ih p (h3 p hp)).1
      · simp only [PV.toD, PyData.depth]
        refine Nat.succ_le_succ (depthAll_le ?_)
        intro q hq
        rcases List.mem_cons.mp hq with e | hq
        · subst e; simp [PV.toD, PyData.depth]
        · rw [plainPs_map] at hq
          obtain ⟨p, hp, e⟩ := List.mem_map.mp hq
          subst e
          exact (ih p (h3 p hp)).2
    cases p with
    | lst ps =>
      have h : ps.length ≤ 100000 ∧ okDs n ps = true := by simpa [okD] using h
      exact seq true ps h.2
    | tup ps =>
      have h : ps.length ≤ 100000 ∧ okDs n ps = true := by simpa [okD] using h
      exact seq false ps h.2
    | ktup ps =>
      have h : ps.length ≤ 100000 ∧ okDs n ps = true := by simpa [okD] using h
      exact seq false ps h.2
    | non => exact ⟨by decide +kernel, by simp [plainP, PV.toD, PyData.depth]⟩
    | bl b => cases b <;> exact ⟨by decide +kernel, by simp [plainP, PV.toD, PyData.depth]⟩
    | int i => exact ⟨by simp [plainP, PV.toD, toDs, PyData.canLay0, PyData.canLayAll0], by simp [plainP, PV.toD, toDs, PyData.depth, PyData.depthAll]⟩
    | str x =>
      have h : PyData.canLay0 (.str x) = true := by simpa [okD] using h
      exact ⟨by simp [plainP, PV.toD, toDs, PyData.canLay0, PyData.canLayAll0]; simpa [PyData.canLay0] using h, by simp [plainP, PV.toD, toDs, PyData.depth, PyData.depthAll]⟩
    | klst ps => simp [okD] at h
    | dic t ks vs => simp [okD] at h
    | fn a => simp [okD] at h
    | obj a b c => simp [okD] at h
theorem plain_ne {n : Nat} {p : PV} (h : okD n p = true) (hn : n ≤ 64) : gNe (plainP p) (plainP p) = some (.bl false) := by
  obtain ⟨h1, h2⟩ := plain_lay n p h
  have h3 : SeqAt.shaped (plainP p).toD = true := by
    simp only [SeqAt.shaped, h1, Bool.true_and, decide_eq_true_eq]
    omega
  unfold gNe pvEq
  rw [h3, SeqAt.eqv_refl _ h1]
  rfl
theorem ap_plain {n : Nat} {p : PV} (h : okD n p = true) : F_plain_ n [p] = .ok (plainP p) .non := F_plain_eq n p h
end PL

set_option Elab.async false
set_option linter.all false
set_option maxRecDepth 100000
set_option maxHeartbeats 4000000
namespace PL
open PySem PySem.Spec L2
set_option autoImplicit false
section
variable {X : Cx} {W : WX} {fr : Bool} {k : Nat} {pos p p2 p3 : Pos} {e a b : Expr} {es : List Expr} {da db : Den} {dl : DenL} {x : Str} {K : PySem.W.Frag} {mg : Str → Option Value}
/-! ### whole division by greater numbers -/
def gFdivW : PV → PV → Option PV
  | .int i, .int j => if decide (0 < j) && decide (j.natAbs.log2 < 9000) then some (.int (i / j)) else none
  | _, _ => none
theorem v2_fdivW : V2 K (rI CDivW fun i j => .int (i / j)) gFdivW := by
  intro S H x y p q z Q s rx ry e k
  unfold gFdivW at e
  split at e
  · split at e
    · rename_i hz
      cases rx; cases ry; cases e
      simp only [Bool.and_eq_true, decide_eq_true_eq] at hz
      exact ⟨_, _, rfl, rfl, hz, k _ S H (Step.refl s) (.int _)⟩
    · cases e
  · cases e
abbrev dFdivW := d2 gFdivW
theorem de_fdivW (ha : DE X W a da) (hb : DE X W b db) : DE X W (.BinOp a .FloorDiv b pos) (dFdivW da db) := de_op op_fdivW v2_fdivW ha hb
/-! ### math.gcd -/
def gGcd : List PV → Option PV
  | [.int i, .int j] => some (.int ((Nat.gcd i.natAbs j.natAbs : Nat) : Int))
  | _ => none
theorem vn_gcd : VN K rGcd gGcd := by
  intro S H xs ps z Q s rx e k
  unfold gGcd at e
  split at e
  · cases e
    cases rx with
    | cons r1 r2 =>
      cases r2 with
      | cons r3 r4 =>
        cases r4; cases r1; cases r3
        exact ⟨_, _, rfl, k _ S H (Step.refl s) (.int _)⟩
  · cases e
theorem de_gcd (hm : X.mg x = some (.builtin "math.gcd")) (ha : DA X W (e :: es) dl) (hg : Gl X x := by rfl) (hdb : (x == ("__debug__" : Str)) = false := by decide)
    (he : starEach (e :: es) X.env = (false, eval e X.env) :: starEach es X.env := by rfl) (hpl : (backTo pos (starEach es X.env)).any (·.1) = false := by rfl) : DE X W (.Call (.Name x p) (e :: es) [] pos) (dN gGcd dl) :=
  DE.of (pe_callBfun cr_gcd hg hm ha hdb he hpl) (eo_n canon_ok vn_gcd)
/-! ### list(range(..)) -/
theorem rep_rg {S : Hp} (i j : Int) : RepL K S (rangeP i (j - i).toNat) (rgV i j) := by
  unfold rangeP rgV
  generalize (List.range (j - i).toNat) = l
  induction l with
  | nil => exact .nil
  | cons c l ih => exact .cons (.int _) ih
def rgOkB (i j : Int) : Bool := decide (-(2 ^ 62) ≤ i) && decide (i < 2 ^ 62) && (decide (-(2 ^ 62) ≤ j) && decide (j < 2 ^ 62)) && decide ((j - i).toNat ≤ 2 ^ 24)
theorem rgOkB_ok {i j : Int} (h : rgOkB i j = true) : RgOk i j := by
  unfold rgOkB at h
  simp only [Bool.and_eq_true, decide_eq_true_eq] at h
  obtain ⟨⟨⟨h1, h2⟩, h3, h4⟩, h5⟩ := h
  exact ⟨h1, h2, h3, h4, h5⟩
def lrg (i j : Int) (ρ : Env) : Rs PV := if rgOkB i j = true then .ok (.lst (rangeP i (j - i).toNat)) ρ else .bad
def dLR1 (da : Den) : Den := fun ρ => (da ρ).bind fun p ρ1 => match p with
  | .int j => lrg 0 j ρ1
  | _ => .bad
def dLR2 (da db : Den) : Den := fun ρ => (da ρ).bind fun p ρ1 => (db ρ1).bind fun q ρ2 => match p, q with
  | .int i, .int j => lrg i j ρ2
  | _, _ => .bad
theorem df_lr1 (c : Ctx X W k) (B : Bi X.mg) (ha : DE X W a da) (hg : Gl X "list" := by rfl) (hg2 : Gl X "range" := by rfl) (na : starEach [a] X.env = (false, eval a X.env) :: starEach [] X.env := by rfl) (nb : starEach [.Call (.Name "range" p2) [a] [] p3] X.env = (false, eval (.Call (.Name "range" p2) [a] [] p3) X.env) :: starEach [] X.env := by rfl) :
    DF X W (.Call (.Name "list" p) [.Call (.Name "range" p2) [a] [] p3] [] pos) (dLR1 da) :=
  DF.of (pe_listRg c.calm hg B.list (prg_1 hg2 B.range ha na) nb) fun H₀ S₀ M S σ H ρ Q ab hp =>
    canon_ok.bind (Rl := rV X.K) (Rl' := rF X.K) ab hp fun p ρ1 v S1 H1 _ a1 _ r1 hp => by
      cases p with
      | int j =>
        cases r1
        have hp : Post X.K X.mg W (rF X.K) H₀ S₀ M σ (lrg 0 j ρ1) Q := hp
        unfold lrg at hp
        split at hp
        · rename_i hz
          exact ⟨j, rfl, rgOkB_ok hz, fun c n => hp _ S1 _ (a1.fresh n (p := .lst _) (o := .lst _) (rep_rg 0 j)).1 (a1.fresh n (p := .lst _) (o := .lst _) (rep_rg 0 j)).2⟩
        · exact hp.elim
      | _ => exact hp.elim
theorem df_lr2 (c : Ctx X W k) (B : Bi X.mg) (ha : DE X W a da) (hb : DE X W b db) (hg : Gl X "list" := by rfl) (hg2 : Gl X "range" := by rfl) (na : starEach [a, b] X.env = (false, eval a X.env) :: starEach [b] X.env := by rfl) (nb : starEach [b] X.env = (false, eval b X.env) :: starEach [] X.env := by rfl)
    (hpl : (backTo p3 (starEach [b] X.env)).any (·.1) = false := by rfl) (nc : starEach [.Call (.Name "range" p2) [a, b] [] p3] X.env = (false, eval (.Call (.Name "range" p2) [a, b] [] p3) X.env) :: starEach [] X.env := by rfl) :
    DF X W (.Call (.Name "list" p) [.Call (.Name "range" p2) [a, b] [] p3] [] pos) (dLR2 da db) :=
  DF.of (pe_listRg c.calm hg B.list (prg_2 hg2 B.range ha hb na nb hpl) nc) fun H₀ S₀ M S σ H ρ Q ab hp =>
    canon_ok.bind (Rl := rV X.K) (Rl' := rF X.K) ab hp fun p ρ1 v S1 H1 _ a1 _ r1 hp => canon_ok.bind (Rl := rV X.K) (Rl' := rF X.K) a1 hp fun q ρ2 u S2 H2 _ a2 _ r2 hp => by
      cases p with
      | int i =>
        cases q with
        | int j =>
          cases r1; cases r2
          have hp : Post X.K X.mg W (rF X.K) H₀ S₀ M σ (lrg i j ρ2) Q := hp
          unfold lrg at hp
          split at hp
          · rename_i hz
            exact ⟨i, j, rfl, rfl, rgOkB_ok hz, fun c n => hp _ S2 _ (a2.fresh n (p := .lst _) (o := .lst _) (rep_rg i j)).1 (a2.fresh n (p := .lst _) (o := .lst _) (rep_rg i j)).2⟩
          · exact hp.elim
        | _ => exact hp.elim
      | _ => exact hp.elim
/-! ### x[::-1] of a list -/
def dRevL (da : Den) : Den := fun ρ => (da ρ).bind fun p ρ1 => match p with
  | .lst ps => .ok (.lst ps.reverse) ρ1
  | .klst ps => .ok (.lst ps.reverse) ρ1
  | _ => .bad
theorem df_revL {kk : Nat} {p1 : Pos} (ha : DE X W e da) : DF X W (.Subscript e (.Slice none none (some (.UnaryOp .USub (.Constant (.int 1) kk p1) p2)) p3) pos) (dRevL da) :=
  DF.of (pe_revL ha) fun H₀ S₀ M S σ H ρ Q ab hp => canon_ok.bind (Rl := rV X.K) (Rl' := rF X.K) ab hp fun p ρ1 v S1 H1 _ a1 _ r1 hp => by
    cases p with
    | lst ps =>
      cases r1 with
      | lst h1 h2 => exact ⟨_, _, rfl, .inl (.inl (a1.sub _ _ h1)), fun c n => hp _ S1 _ (a1.fresh n (p := .lst _) (o := .lst _) h2.reverse).1 (a1.fresh n (p := .lst _) (o := .lst _) h2.reverse).2⟩
    | klst ps =>
      cases r1 with
      | klst h1 h2 => exact ⟨_, _, rfl, Same.lstK a1.sub h1, fun c n => hp _ S1 _ (a1.fresh n (p := .lst _) (o := .lst _) h2.reverse).1 (a1.fresh n (p := .lst _) (o := .lst _) h2.reverse).2⟩
    | _ => exact hp.elim
/-! ### tuple(x) -/
def gTupOf : List PV → Option PV
  | [.lst ps] => some (.tup ps)
  | [.tup ps] => some (.tup ps)
  | [.ktup ps] => some (.ktup ps)
  | _ => none
theorem vn_tupOf : VN K (fun xs H Q => ∃ p ys, xs = [.ref p] ∧ ((SqL K H p ys ∧ ∀ l, H l = none → Q (.ref l) (upd H l (.tup ys))) ∨ (SqT K H p ys ∧ Q (.ref p) H))) gTupOf := by
  intro S H xs ps z Q s rx e k
  unfold gTupOf at e
  split at e
  · cases rx with
    | cons r1 r2 =>
      cases r2; cases e
      cases r1 with
      | lst h1 h2 => exact ⟨_, _, rfl, .inl ⟨.inl (.inl (s _ _ h1)), fun l n => k _ (upd S l (.tup _)) _ (Step.new1 s n) (.tup upd_same (h2.up (same_upd (Same.free s n))))⟩⟩
  · cases rx with
    | cons r1 r2 =>
      cases r2; cases e
      cases r1 with
      | tup h1 h2 => exact ⟨_, _, rfl, .inr ⟨.inl (.inl (s _ _ h1)), k _ S H (Step.refl s) (.tup h1 h2)⟩⟩
  · cases rx with
    | cons r1 r2 =>
      cases r2; cases e
      cases r1 with
      | ktup h1 h2 => exact ⟨_, _, rfl, .inr ⟨Same.tupK s h1, k _ S H (Step.refl s) (.ktup h1 h2)⟩⟩
  · cases e
theorem de_tupOf (B : Bi X.mg) (ha : DA X W (e :: es) dl) (hg : Gl X "tuple" := by rfl) (he : starEach (e :: es) X.env = (false, eval e X.env) :: starEach es X.env := by rfl) (hpl : (backTo pos (starEach es X.env)).any (·.1) = false := by rfl) :
    DE X W (.Call (.Name "tuple" p) (e :: es) [] pos) (dN gTupOf dl) := DE.of (pe_callTy call_tuple_of hg B.tuple (by decide +kernel) ha (by decide) (by decide) he hpl) (eo_n canon_ok vn_tupOf)
/-! ### sorted(whole numbers) -/
def insI (n : Int) : List Int → List Int
  | [] => [n]
  | m :: l => if n ≤ m then n :: m :: l else m :: insI n l
def sortI : List Int → List Int
  | [] => []
  | n :: l => insI n (sortI l)
theorem insI_perm (n : Int) : ∀ l, (insI n l).Perm (n :: l)
  | [] => .refl _
  | m :: l => by
    unfold insI
    split
    · exact .refl _
    · exact ((insI_perm n l).cons m).trans (.swap n m l)
theorem sortI_perm : ∀ l, (sortI l).Perm l
  | [] => .refl _
  | n :: l => (insI_perm n (sortI l)).trans ((sortI_perm l).cons n)
theorem insI_le {n : Int} : ∀ {l : List Int}, l.Pairwise (· ≤ ·) → (insI n l).Pairwise (· ≤ ·)
  | [], _ => by simp [insI]
  | m :: l, h => by
    have h1 := List.pairwise_cons.mp h
    unfold insI
    split
    · rename_i hz
      refine List.pairwise_cons.mpr ⟨fun a ha => ?_, h⟩
      rcases List.mem_cons.mp ha with e | e
      · rw [e]; exact hz
      · exact Int.le_trans hz (h1.1 a e)
    · rename_i hz
      refine List.pairwise_cons.mpr ⟨fun a ha => ?_, insI_le h1.2⟩
      rcases List.mem_cons.mp ((insI_perm n l).mem_iff.mp ha) with e | e
      · rw [e]; omega
      · exact h1.1 a e
theorem sortI_le : ∀ l : List Int, (sortI l).Pairwise (· ≤ ·)
  | [] => .nil
  | n :: l => insI_le (sortI_le l)
theorem sort_uniq {l m : List Int} (h : l.Perm m) (hl : l.Pairwise (· ≤ ·)) (hm : m.Pairwise (· ≤ ·)) : l = m :=
  h.eq_of_pairwise (fun a b _ _ h1 h2 => Int.le_antisymm h1 h2) hl hm
theorem ints_rep {S : Hp} : ∀ {ps : List PV} {vs : List V} {ns : List Int}, ints? ps = some ns → RepL K S ps vs → vs = ns.map V.int
  | [], _, _, e, h => by cases h; cases e; rfl
  | p :: ps, _, ns, e, h => by
    cases h with
    | cons h1 h2 =>
      cases p with
      | int i =>
        have e : (ints? ps).map (i :: ·) = some ns := e
        cases e1 : ints? ps with
        | none => rw [e1] at e; cases e
        | some ms =>
          rw [e1] at e; cases e
          cases h1
          rw [ints_rep e1 h2]; rfl
      | _ => cases e
def gSorted : List PV → Option PV
  | [.lst ps] => (ints? ps).map fun ns => .lst ((sortI ns).map .int)
  | _ => none
theorem vn_sorted : VNF K (rSortedI K) gSorted := by
  intro S H xs ps z Q s rx e k
  unfold gSorted at e
  split at e
  · rename_i ps
    cases rx with
    | cons r1 r2 =>
      cases r2
      cases r1 with
      | lst h1 h2 =>
        cases e1 : ints? ps with
        | none => rw [e1] at e; cases e
        | some ns =>
          rw [e1] at e; cases e
          have e2 := ints_rep e1 h2
          subst e2
          refine ⟨_, ns, rfl, .inl (.inl (s _ _ h1)), fun ns' q hp hs n => ?_⟩
          have e3 := sort_uniq (hp.trans (sortI_perm ns).symm) hs (sortI_le ns)
          subst e3
          exact k q (.lst _) n (repInts _)
  · cases e
theorem df_sorted (B : Bi X.mg) (ha : DA X W (e :: es) dl) (hg : Gl X "sorted" := by rfl) (he : starEach (e :: es) X.env = (false, eval e X.env) :: starEach es X.env := by rfl) (hpl : (backTo pos (starEach es X.env)).any (·.1) = false := by rfl) :
    DF X W (.Call (.Name "sorted" p) (e :: es) [] pos) (dN gSorted dl) := DF.of (pe_callB cr_sortedI hg B.sorted (by decide +kernel) ha (by decide) (by decide) he hpl) (fo_n canon_ok vn_sorted)
end
end PL

set_option Elab.async false
set_option linter.all false
set_option maxRecDepth 100000
set_option maxHeartbeats 4000000
namespace PL
open PySem PySem.Spec L2
set_option autoImplicit false
section
variable {X : Cx} {W : WX} {K : PySem.W.Frag}
/-! ### x in a tuple of flat values -/
def flat? : PV → Option V
  | .non => some .non
  | .bl b => some (.bl b)
  | .int i => some (.int i)
  | .str x => some (.str x)
  | _ => none
def flats? : List PV → Option (List V)
  | [] => some []
  | p :: ps => (flat? p).bind fun x => (flats? ps).map fun xs => x :: xs
theorem flat_rep {S : Hp} {p : PV} {v x : V} (e : flat? p = some x) (r : Rep K S p v) : v = x ∧ flatV x = true := by
  cases p <;> first | (cases e; cases r; exact ⟨rfl, rfl⟩) | cases e
theorem flats_rep {S : Hp} : ∀ {ps : List PV} {vs xs : List V}, flats? ps = some xs → RepL K S ps vs → vs = xs ∧ xs.all flatV = true
  | [], _, _, e, r => by cases r; cases e; exact ⟨rfl, rfl⟩
  | p :: ps, _, _, e, r => by
    cases r with
    | cons r1 r2 =>
      have e : ((flat? p).bind fun x => (flats? ps).map fun xs => x :: xs) = some _ := e
      cases e1 : flat? p with
      | none => rw [e1] at e; cases e
      | some x =>
        cases e2 : flats? ps with
        | none => rw [e1, e2] at e; cases e
        | some xs =>
          rw [e1, e2] at e
          cases e
          obtain ⟨h1, h2⟩ := flat_rep e1 r1
          obtain ⟨h3, h4⟩ := flats_rep e2 r2
          subst h1 h3
          exact ⟨rfl, by rw [List.all_cons, h2, h4]; rfl⟩
def gInT (neg : Bool) : PV → PV → Option PV
  | p, .tup ps => (flat? p).bind fun x => (flats? ps).map fun xs => .bl (if neg then !inV x xs else inV x xs)
  | p, .ktup ps => (flat? p).bind fun x => (flats? ps).map fun xs => .bl (if neg then !inV x xs else inV x xs)
  | _, _ => none
theorem v2_inT {neg : Bool} : V2 K (rIn K neg) (gInT neg) := by
  intro S H x y p q z Q s rx ry e k
  have key : ∀ ps : List PV, ∀ vs : List V, RepL K S ps vs → ((flat? p).bind fun x => (flats? ps).map fun xs => PV.bl (if neg then !inV x xs else inV x xs)) = some z → flatV x = true ∧ vs.all flatV = true ∧ z = .bl (if neg then !inV x vs else inV x vs) := by
    intro ps vs r e
    cases e1 : flat? p with
    | none => rw [e1] at e; cases e
    | some x' =>
      cases e2 : flats? ps with
      | none => rw [e1, e2] at e; cases e
      | some xs =>
        rw [e1, e2] at e
        cases e
        obtain ⟨h1, h2⟩ := flat_rep e1 rx
        obtain ⟨h3, h4⟩ := flats_rep e2 r
        subst h1 h3
        exact ⟨h2, h4, rfl⟩
  cases q with
  | tup ps =>
    cases ry with
    | tup h1 h2 =>
      obtain ⟨g1, g2, rfl⟩ := key ps _ h2 e
      exact ⟨_, _, rfl, .inr (.inl (.inl (s _ _ h1))), g1, g2, k _ S H (Step.refl s) (.bl _)⟩
  | ktup ps =>
    cases ry with
    | ktup h1 h2 =>
      obtain ⟨g1, g2, rfl⟩ := key ps _ h2 e
      exact ⟨_, _, rfl, .inr (Same.tupK s h1), g1, g2, k _ S H (Step.refl s) (.bl _)⟩
  | _ => cases e
theorem gInT_sc {neg : Bool} : ∀ p q z, gInT neg p q = some z → z.sc = true := by
  intro p q z e
  have key : ∀ ps : List PV, ((flat? p).bind fun x => (flats? ps).map fun xs => PV.bl (if neg then !inV x xs else inV x xs)) = some z → z.sc = true := by
    intro ps e
    cases e1 : flat? p with
    | none => rw [e1] at e; cases e
    | some x' =>
      cases e2 : flats? ps with
      | none => rw [e1, e2] at e; cases e
      | some xs => rw [e1, e2] at e; cases e; rfl
  cases q with
  | tup ps => exact key ps e
  | ktup ps => exact key ps e
  | _ => cases e
theorem cr_inT : CmpR X .In (rIn X.K false) (gInT false) := ⟨op_in_seq, v2_inT, gInT_sc⟩
theorem cr_notInT : CmpR X .NotIn (rIn X.K true) (gInT true) := ⟨op_notIn_seq, v2_inT, gInT_sc⟩
/-! ### tuples of the module -/
def fltB : PV → Value → Bool
  | .non, .none => true
  | .bl b, .bool c => b == c
  | .int i, .int j _ => i == j
  | .str x, .str y _ => x == y
  | _, _ => false
def fltsB : List PV → List Value → Bool
  | [], [] => true
  | p :: ps, v :: vs => fltB p v && fltsB ps vs
  | _, _ => false
theorem fltB_ok {S : Hp} {p : PV} {u : Value} (h : fltB p u = true) : ∃ v, RelV v u ∧ Rep K S p v := by
  unfold fltB at h
  split at h
  · exact ⟨.non, rfl, .non⟩
  · rw [beq_iff_eq] at h; subst h; exact ⟨.bl _, rfl, .bl _⟩
  · rw [beq_iff_eq] at h; subst h; exact ⟨.int _, ⟨_, rfl⟩, .int _⟩
  · rw [beq_iff_eq] at h; subst h; exact ⟨.str _, ⟨_, rfl⟩, .str _⟩
  · cases h
theorem fltsB_ok {S : Hp} : ∀ {ps : List PV} {us : List Value}, fltsB ps us = true → ∃ vs, Vals vs us ∧ RepL K S ps vs
  | [], [], _ => ⟨[], .nil, .nil⟩
  | [], _ :: _, h => by cases h
  | _ :: _, [], h => by cases h
  | p :: ps, u :: us, h => by
    have h : fltB p u = true ∧ fltsB ps us = true := (Bool.and_eq_true _ _).mp h
    obtain ⟨v, h1, h2⟩ := fltB_ok (K := K) (S := S) h.1
    obtain ⟨vs, h3, h4⟩ := fltsB_ok h.2
    exact ⟨v :: vs, .cons h1 h3, .cons h2 h4⟩
def ktupB (K : PySem.W.Frag) (x : Str) (ps : List PV) : Bool := He.eqO (PySem.W.nsIn K mainGlobals x) (some (some (.ref (He.ga K x)))) && (match K.lookup (He.ga K x) with
  | some ⟨.type c, _, .seq its _, _⟩ => c == "tuple" && (decide (its.size ≤ sizeLine) && fltsB ps its.toList)
  | _ => false)
theorem ktupB_ok {ps : List PV} {x : Str} {h : Heap} {mg : Str → Option Value} (X : K.In h) (G : h.Ns mainGlobals mg) (hb : ktupB K x ps = true) : mg x = some (.ref (He.ga K x)) ∧ ∀ S, Rep K S (.ktup ps) (.ref (He.ga K x)) := by
  obtain ⟨h1, h2⟩ := (Bool.and_eq_true _ _).mp hb
  refine ⟨PySem.W.mg_of X G (He.eqO_ok h1), fun S => ?_⟩
  split at h2
  · rename_i c dd its n sl e
    simp only [Bool.and_eq_true, decide_eq_true_eq, beq_iff_eq] at h2
    obtain ⟨hc, hz, hf⟩ := h2
    subst hc
    obtain ⟨vs, h3, h4⟩ := fltsB_ok (K := K) (S := S) hf
    exact .ktup (.inr ⟨_, its, n, e, rfl, rfl, hz, h3⟩) h4
  · cases h2
/-- a module's name of a built-in function -/
def bltB (K : PySem.W.Frag) (x : Str) (id : String) : Bool := He.eqO (PySem.W.nsIn K mainGlobals x) (some (some (.builtin id)))
theorem bltB_ok {x : Str} {id : String} {h : Heap} {mg : Str → Option Value} (X : K.In h) (G : h.Ns mainGlobals mg) (hb : bltB K x id = true) : mg x = some (.builtin id) := PySem.W.mg_of X G (He.eqO_ok hb)
end
end PL

set_option Elab.async false
set_option linter.all false
set_option maxRecDepth 100000
set_option maxHeartbeats 4000000
namespace PL
open PySem PySem.Spec L2
set_option autoImplicit false
/-- a measure: the number in a slot -/
def muI (i : Nat) (ρ : Env) : Nat := match (ρ[i]? : Option Sl) with
  | some (.sh (.int j)) => j.natAbs + 2
  | _ => 0
section
variable {X : Cx} {W : WX} {fr : Bool} {k : Nat} {pos : Pos} {a b : Expr} {dl : DenL} {x y : Str}
/-! ### a, b = e, f -/
def sPar (i j : Nat) (dl : DenL) : DenS := fun ρ => (dl ρ).bindS fun ps ρ1 => match ps with
  | [p, q] => .nx ((ρ1.set i (.sh p)).set j (.sh q))
  | _ => .bad
theorem ds_par {px py pt pt2 : Pos} {kt k2 : Nat} (c : Ctx X W k) (i j : Nat) (ha : DA X W [a, b] dl) (hij : i ≠ j := by decide) (hi : X.N[i]? = some x := by rfl) (hj : X.N[j]? = some y := by rfl) (hx : X.env.scope.names.lookup x = some .local := by rfl) (hy : X.env.scope.names.lookup y = some .local := by rfl)
    (hw : swappedStores [.Tuple [.Name x px, .Name y py] kt pt] (.Tuple [a, b] k2 pt2) X.env = pure (some [x, y]) := by rfl) (hs : swapsWithSole [.Tuple [.Name x px, .Name y py] kt pt] (.Tuple [a, b] k2 pt2) pos.line X.env = pure false := by rfl) :
    DS X W fr (.Assign [.Tuple [.Name x px, .Name y py] kt pt] (.Tuple [a, b] k2 pt2) pos) (sPar i j dl) :=
  DS.of (ps_par c.calm c.nd hi hj hij hx hy ha hw hs) fun H₀ S₀ M S σ H ρ D ab hp => XOk.bindS (Rl := rL X.K) canon_ok ab hp fun ps ρ1 vs S1 H1 _ a1 _ r1 hp => by
    have r1 : RepL X.K S1 ps vs := r1
    cases r1 with
    | nil => exact hp.elim
    | cons g1 r2 =>
      cases r2 with
      | nil => exact hp.elim
      | cons g2 r3 =>
        cases r3 with
        | nil => exact ⟨_, _, rfl, hp S1 _ H1 ((a1.setSh g1).setSh g2)⟩
        | cons g3 r4 => exact hp.elim
@[simp] theorem ap_sPar {i j : Nat} {ρ : Env} : sPar i j dl ρ = (dl ρ).bindS fun ps ρ1 => match ps with
  | [p, q] => .nx ((ρ1.set i (.sh p)).set j (.sh q))
  | _ => .bad := id rfl
@[simp] theorem ap_fdivW (i j : Int) : gFdivW (.int i) (.int j) = if decide (0 < j) && decide (j.natAbs.log2 < 9000) then some (.int (i / j)) else none := id rfl
@[simp] theorem ap_gcd (i j : Int) : gGcd [.int i, .int j] = some (.int ((Nat.gcd i.natAbs j.natAbs : Nat) : Int)) := id rfl
@[simp] theorem ap_dLR1 {da : Den} {ρ : Env} : dLR1 da ρ = (da ρ).bind fun p ρ1 => match p with
  | .int j => lrg 0 j ρ1
  | _ => .bad := id rfl
@[simp] theorem ap_dLR2 {da db : Den} {ρ : Env} : dLR2 da db ρ = (da ρ).bind fun p ρ1 => (db ρ1).bind fun q ρ2 => match p, q with
  | .int i, .int j => lrg i j ρ2
  | _, _ => .bad := id rfl
theorem lrg_ok {i j : Int} {ρ : Env} (h1 : -10000000 ≤ i) (h2 : i ≤ 10000000) (h3 : -10000000 ≤ j) (h4 : j ≤ 10000000) (h5 : j - i ≤ 10000000) : lrg i j ρ = .ok (.lst (rangeP i (j - i).toNat)) ρ := by
  unfold lrg
  rw [if_pos]
  unfold rgOkB
  simp only [Bool.and_eq_true, decide_eq_true_eq]
  omega
@[simp] theorem ap_dRevL {da : Den} {ρ : Env} : dRevL da ρ = (da ρ).bind fun p ρ1 => match p with
  | .lst ps => .ok (.lst ps.reverse) ρ1
  | .klst ps => .ok (.lst ps.reverse) ρ1
  | _ => .bad := id rfl
@[simp] theorem ap_tupOfL (ps : List PV) : gTupOf [.lst ps] = some (.tup ps) := id rfl
@[simp] theorem ap_tupOfT (ps : List PV) : gTupOf [.tup ps] = some (.tup ps) := id rfl
end
end PL

set_option Elab.async false
set_option linter.all false
set_option maxRecDepth 100000
set_option maxHeartbeats 4000000
namespace PL
open PySem PySem.Spec L2
open PyProof.Rows hiding St
set_option autoImplicit false
/-! ### set(xs) of a list of whole numbers -/
abbrev eSet (w : World) : Obj := { cls := .type "set", dict := none, data := .set #[] 0 (.fresh 0 0 (!w.params.followText "set-order")) }
section
variable {P : Program} {w : World} {A : Around} {E : Value → Shared → Prop} {s : Shared}
set_option maxHeartbeats 3200000 in
theorem set_of_ints {l : Addr} {vs : Array Value} (ns : List Int) {Q : Value → Shared → Prop} (hcalm : A.handled = none) (hL : s.heap.IsList l vs) (hI : IntsAre vs.toList ns) (hroom : ns.length + 1 < scanBound)
    (K : ∀ (h2 : Heap) (tk c : Nat), SetR w h2 s.heap.objs.size (fun j => decide (j ∈ ns)) c → c ≤ ns.length → (∀ b o, s.heap.get? b = some o → h2.get? b = some o) → Q (.ref s.heap.objs.size) { s with heap := h2, toks := tk }) :
    wpAny (model P w) A (call (.type "set") [.ref l]) Q E s := by
  have size_eq : vs.size = ns.length := by rw [← IntsAre.length hI, Array.length_toList]
  obtain ⟨c, tl, hmro⟩ := F.called_set.mro
  have f1 := F.called_set.made
  have f2 := F.called_set.sub
  refine wpAny_call (codeAny_of_tree ?_)
  show wpAny _ _ (callAny (.type "set") _) _ _ _
  refine wpAny_pure ⟨Code.quiet_builtin _ (by decide +kernel), codeAny_builtin F.entry_type_call ?_⟩
  rw [Around.under_plain (weight_type_call_type "set" [.ref l] []) rfl]
  have f3 := F.called_set.notType
  have f4 := F.called_set.canCreate
  have f5 := F.typeCall_set_1 (.ref l)
  repeat (any_goals (first | assumption | wp_step))
  refine codeAny_mono (code_set_led1 (.ref l) (E := E) (Q₁ := fun obj s₁ => obj = .ref s.heap.objs.size ∧ s₁ = { s with heap := s.heap.push (eSet w) }) ⟨rfl, rfl⟩) fun r s₁ hr => ?_
  cases r with
  | error e => exact hr
  | ok fl =>
    cases fl with
    | ret obj =>
      obtain ⟨rfl, rfl⟩ := hr
      have hS : (s.heap.push (eSet w)).get? s.heap.objs.size = some (eSet w) := Heap.get?_push_size _ rfl
      have hT : Shared.TypeIs { s with heap := s.heap.push (eSet w) } (.ref s.heap.objs.size) "set" := ⟨_, hS, rfl⟩
      have f6 := F.called_set.init.lookup
      have f7 := F.called_set.init.bind (.ref s.heap.objs.size)
      repeat (any_goals (first | assumption | wp_step))
      refine codeAny_mono (codeAny_call_builtin (R := wants (fun r s₂ => r = .none ∧ ∃ h2 tk c, s₂ = { s with heap := h2, toks := tk } ∧ SetR w h2 s.heap.objs.size (fun j => decide (j ∈ ns)) c ∧ c ≤ ns.length ∧
          (∀ b o, s.heap.get? b = some o → h2.get? b = some o)) E) F.called_set.init.plain F.entry_set_init (check_set_init_1 hT ?_)) fun r₂ s₂ hr₂ => ?_
      · obtain ⟨⟨ocls, odict, odata, oslots⟩, hol, hcl, nl, hdl⟩ := hL
        simp only at hcl hdl
        subst hcl; subst hdl
        have hol2 : (s.heap.push (eSet w)).get? l = some { cls := .type "list", dict := odict, data := .seq vs nl, slots := oslots } := Heap.get?_push_of_some _ hol
        have g1 := F.sub_list_set
        have g2 := F.sub_list_frozenset
        have g3 : (Value.type "list" == Value.type "dict") = false := by decide
        have hL2 : (s.heap.push (eSet w)).IsList l vs := ⟨_, hol2, rfl, nl, rfl⟩
        unfold Builtin.«set.__init__» noKeywords Builtin.Frozenset.updateFrom
        generalize hPI : pyIter = PI
        wp_walk
        subst hPI
        refine wpAny_pyIter_list hL2 ?_
        refine wpAny_bind (wpAny_runValue ?_)
        have lt0 : l < s.heap.objs.size := Heap.lt_size hol
        have calm3 : A.in1.in1.in1.handled = none := by simp [hcalm]
        have sz1 : (s.heap.push (eSet w)).objs.size = s.heap.objs.size + 1 := Heap.size_push ..
        have ne1 : l ≠ (s.heap.push (eSet w)).objs.size := by rw [sz1]; exact Nat.ne_of_lt (Nat.lt_succ_of_lt lt0)
        have ne2 : s.heap.objs.size ∉ [(s.heap.push (eSet w)).objs.size, l] := by
          rw [sz1]; simp only [List.mem_cons, List.mem_singleton, List.not_mem_nil, or_false, not_or]
          exact ⟨Nat.ne_of_lt (Nat.lt_succ_self _), Nat.ne_of_gt lt0⟩
        have val : ∀ (i : Nat) (v : Value), vs[i]? = some v → ∃ k t, ns[i]? = some k ∧ v = .int k t := fun i v hv => by
          have hi : i < ns.length := by rw [← size_eq]; exact (Array.getElem?_eq_some_iff.mp hv).1
          obtain ⟨t, e⟩ := IntsAre.int_at hI i v (by rw [Array.getElem?_toList]; exact hv)
          refine ⟨ns[i], t, List.getElem?_eq_getElem hi, ?_⟩
          rw [e, List.getD_eq_getElem?_getD, List.getElem?_eq_getElem hi] <;> rfl
        refine set_update_ints ((Walks.list calm3 _ l ne1 vs).toS) s.heap.objs.size ne2 ns size_eq hroom val (vs.size - 0) 0 _ (by omega) (Nat.zero_le _)
          ⟨⟨_, Heap.get?_push_size _ rfl, rfl, rfl⟩, (hL2.push _)⟩ ⟨0, Nat.le_refl 0, setR_new_at (Heap.get?_push_of_some _ hS)⟩ ?_
        intro s3 c3 hm hc3 hS3
        obtain ⟨h3, g3, d3, tk3, os3⟩ := s3
        have eg : g3 = s.gens := hm.gens
        have ed : d3 = s.drawn := hm.drawn
        have eo : os3 = s.os := hm.os
        subst eg; subst ed; subst eo
        show wpAny _ _ _ _ _ _
        refine wpAny_pure ?_
        show wpAny _ _ (ret Value.none) _ _ _
        rw [size_eq] at hc3
        refine wpAny_pure ⟨rfl, h3, tk3, c3, rfl, hS3, hc3, fun b o e => ?_⟩
        have hb0 : b < s.heap.objs.size := Heap.lt_size e
        refine hm.heap b o ?_ (Heap.get?_push_of_some _ (Heap.get?_push_of_some _ e))
        simp only [List.mem_cons, List.mem_singleton, List.not_mem_nil, or_false, not_or]
        exact ⟨Nat.ne_of_lt hb0, by rw [sz1]; exact Nat.ne_of_lt (Nat.lt_succ_of_lt hb0)⟩
      · cases r₂ with
        | error e => exact hr₂
        | ok fl₂ =>
          cases fl₂ with
          | ret r =>
            obtain ⟨rfl, h2, tk, c, rfl, a1, a2, a3⟩ := hr₂
            repeat (any_goals (first | assumption | wp_step))
            exact K _ _ _ a1 a2 a3
          | _ => exact hr₂.elim
    | _ => exact hr.elim
end
/-! ### sorted, every number once -/
def insU (n : Int) : List Int → List Int
  | [] => [n]
  | m :: l => if n < m then n :: m :: l else if n = m then m :: l else m :: insU n l
def sortU : List Int → List Int
  | [] => []
  | n :: l => insU n (sortU l)
theorem insU_mem {n k : Int} : ∀ {l : List Int}, k ∈ insU n l ↔ k = n ∨ k ∈ l
  | [] => by simp [insU]
  | m :: l => by
    unfold insU
    split
    · simp
    · split
      · rename_i h
        subst h
        simp
      · simp only [List.mem_cons, insU_mem (l := l)]
        constructor
        · rintro (h | h | h) <;> simp [h]
        · rintro (h | h | h) <;> simp [h]
theorem sortU_mem {k : Int} : ∀ {l : List Int}, k ∈ sortU l ↔ k ∈ l
  | [] => by simp [sortU]
  | n :: l => by simp [sortU, insU_mem, sortU_mem (l := l)]
theorem insU_lt {n : Int} : ∀ {l : List Int}, l.Pairwise (· < ·) → (insU n l).Pairwise (· < ·)
  | [], _ => by simp [insU]
  | m :: l, h => by
    have h1 := List.pairwise_cons.mp h
    unfold insU
    split
    · rename_i hz
      refine List.pairwise_cons.mpr ⟨fun a ha => ?_, h⟩
      rcases List.mem_cons.mp ha with e | e
      · rw [e]; exact hz
      · exact Int.lt_trans hz (h1.1 a e)
    · split
      · exact h
      · rename_i hz hn
        refine List.pairwise_cons.mpr ⟨fun a ha => ?_, insU_lt h1.2⟩
        rcases insU_mem.mp ha with e | e
        · rw [e]; omega
        · exact h1.1 a e
theorem sortU_lt : ∀ l : List Int, (sortU l).Pairwise (· < ·)
  | [] => .nil
  | n :: l => insU_lt (sortU_lt l)
theorem sortU_nodup (l : List Int) : (sortU l).Nodup := (sortU_lt l).imp fun h => by omega
theorem perm_of_nodup {l m : List Int} (hl : l.Nodup) (hm : m.Nodup) (h : ∀ k, k ∈ l ↔ k ∈ m) : l.Perm m := (List.perm_ext_iff_of_nodup hl hm).mpr h
theorem sortU_uniq {l m : List Int} (h : m.Pairwise (· < ·)) (e : ∀ k, k ∈ m ↔ k ∈ l) : m = sortU l :=
  (perm_of_nodup (h.imp fun h => by omega) (sortU_nodup l) fun k => (e k).trans sortU_mem.symm).eq_of_pairwise (fun a b _ _ h1 h2 => absurd h1 (by omega)) h (sortU_lt l)
theorem insU_len (n : Int) : ∀ l : List Int, (insU n l).length ≤ l.length + 1
  | [] => by simp [insU]
  | m :: l => by
    unfold insU
    split
    · simp
    · split
      · simp
      · have := insU_len n l
        simp; omega
theorem sortU_len : ∀ l : List Int, (sortU l).length ≤ l.length
  | [] => Nat.le_refl _
  | n :: l => by
    have h1 := insU_len n (sortU l)
    have h2 := sortU_len l
    simp only [sortU, List.length_cons]
    omega
section
variable {X : Cx} {W : WX} {fr : Bool} {k : Nat} {pos p p2 p3 : Pos} {e a b : Expr} {es : List Expr} {da db : Den} {x : Str}
def rSetI (K : PySem.W.Frag) (w : World) : List V → Hp → VK → Prop := fun xs H Q => ∃ (l : Addr) (ns : List Int), xs = [.ref l] ∧ SqL K H l (ns.map V.int) ∧ ns.length ≤ 4000 ∧
  ∀ p, H p = none → Q (.ref p) (upd H p (SetO w p (fun j => decide (j ∈ ns)) (sortU ns).length))
theorem cr_setI (hc : X.calm = true) : CallR X (.type "set") (rSetI X.K X.w) := by
  intro pins s σ H xs us Q I r h
  obtain ⟨l, ns, rfl, hq, hl, q⟩ := h
  rw [Vals.ref1 r]
  obtain ⟨its, rv, pl, hz⟩ := I.list hq
  refine set_of_ints ns (I.ok.hd hc) pl.isList (by simpa using rv.ints) (by unfold scanBound; omega) fun h2 tk c hS hc2 hk => ?_
  have ec : c = (sortU ns).length := by
    obtain ⟨o, es, ep, t, _, _, _, _, nd, mem, _, _, sz, _⟩ := hS
    have e1 := (perm_of_nodup nd (sortU_nodup ns) fun k => by rw [← mem k, sortU_mem]; simp).length_eq
    rw [List.length_map, Array.length_toList] at e1
    omega
  subst ec
  exact ⟨.ref _, upd H s.heap.objs.size (SetO X.w s.heap.objs.size (fun j => decide (j ∈ ns)) (sortU ns).length), I.laid (t' := tk) hk (Nat.le_refl _) (setO_new hS), rfl, q _ (I.hok.fresh (Nat.le_refl _))⟩
def rLenSet (w : World) : List V → Hp → VK → Prop := fun xs H Q => ∃ (a : Addr) (S : Int → Bool) (n : Nat), xs = [.ref a] ∧ H a = some (SetO w a S n) ∧ n ≤ 4000 ∧ Q (.int (n : Nat)) H
theorem cr_lenSet : CallR X (.builtin "len") (rLenSet X.w) := by
  intro pins s σ H xs us Q I r h
  obtain ⟨a, S, n, rfl, ha, hn, q⟩ := h
  rw [Vals.ref1 r]
  obtain ⟨o, es, ep, t, ho, hex, hd, _, _, _, _, hf, sz, _⟩ := setO_get I ha
  exact call_len_set ho hex hd hf (by omega) ⟨.int n, H, I.tok _, ⟨_, by rw [sz]⟩, q⟩
def intsOf (p : PV) : Option (List Int) := match p with
  | .lst ps => ints? ps
  | _ => none
def dSortSet (da : Den) : Den := fun ρ => (da ρ).bind fun p ρ1 => match intsOf p with
  | some ns => if ns.length ≤ 4000 ∧ (sortU ns).length < 64 then .ok (.lst ((sortU ns).map .int)) ρ1 else .bad
  | none => .bad
def dLenSet (da : Den) : Den := fun ρ => (da ρ).bind fun p ρ1 => match intsOf p with
  | some ns => if ns.length ≤ 4000 then .ok (.int (sortU ns).length) ρ1 else .bad
  | none => .bad
theorem df_sortSet (c : Ctx X W k) (B : Bi X.mg) (ha : DE X W a da) (hg : Gl X "sorted" := by rfl) (hg2 : Gl X "set" := by rfl) (na : starEach [a] X.env = (false, eval a X.env) :: starEach [] X.env := by rfl) (nb : starEach [.Call (.Name "set" p2) [a] [] p3] X.env = (false, eval (.Call (.Name "set" p2) [a] [] p3) X.env) :: starEach [] X.env := by rfl) :
    DF X W (.Call (.Name "sorted" p) [.Call (.Name "set" p2) [a] [] p3] [] pos) (dSortSet da) :=
  DF.of (pe_callB (cr_sortedSet c.calm) hg B.sorted (by decide +kernel) (pa_cons (pe_callTy (cr_setI c.calm) hg2 B.set (by decide +kernel) (pa_cons ha pa_nil na) (by decide) (by decide) na rfl) pa_nil nb) (by decide) (by decide) nb rfl) fun H₀ S₀ M S σ H ρ Q ab hp =>
    canon_ok.bind (Rl := rV X.K) (Rl' := rF X.K) ab hp fun q ρ1 v S1 H1 _ a1 _ r1 hp => by
      have r1 : Rep X.K S1 q v := r1
      cases e1 : intsOf q with
      | none => simp only [e1] at hp; exact hp.elim
      | some ns =>
        simp only [e1] at hp
        split at hp
        · rename_i hz
          unfold intsOf at e1
          split at e1
          · cases r1 with
            | lst h1 h2 =>
              have e2 := ints_rep e1 h2
              subst e2
              refine ⟨_, ns, rfl, .inl (.inl (a1.sub _ _ h1)), hz.1, fun b n => ?_⟩
              refine ⟨b, _, _, rfl, upd_same, hz.2, fun ms c hs hm _ n2 => ?_⟩
              have e3 := sortU_uniq hs (l := ns) fun k => by rw [hm k]; simp
              subst e3
              have a2 := a1.step (Step.hid (o := SetO X.w b (fun j => decide (j ∈ ns)) (sortU ns).length) a1.sub n)
              exact hp _ S1 _ (a2.fresh n2 (p := .lst _) (o := .lst _) (repInts _)).1 (a2.fresh n2 (p := .lst _) (o := .lst _) (repInts _)).2
          · cases e1
        · exact hp.elim
theorem de_lenSet (c : Ctx X W k) (B : Bi X.mg) (ha : DE X W a da) (hg : Gl X "len" := by rfl) (hg2 : Gl X "set" := by rfl) (na : starEach [a] X.env = (false, eval a X.env) :: starEach [] X.env := by rfl) (nb : starEach [.Call (.Name "set" p2) [a] [] p3] X.env = (false, eval (.Call (.Name "set" p2) [a] [] p3) X.env) :: starEach [] X.env := by rfl) :
    DE X W (.Call (.Name "len" p) [.Call (.Name "set" p2) [a] [] p3] [] pos) (dLenSet da) :=
  DE.of (pe_callB cr_lenSet hg B.len (by decide +kernel) (pa_cons (pe_callTy (cr_setI c.calm) hg2 B.set (by decide +kernel) (pa_cons ha pa_nil na) (by decide) (by decide) na rfl) pa_nil nb) (by decide) (by decide) nb rfl) fun H₀ S₀ M S σ H ρ Q ab hp =>
    canon_ok.bind (Rl := rV X.K) (Rl' := rV X.K) ab hp fun q ρ1 v S1 H1 _ a1 _ r1 hp => by
      have r1 : Rep X.K S1 q v := r1
      cases e1 : intsOf q with
      | none => simp only [e1] at hp; exact hp.elim
      | some ns =>
        simp only [e1] at hp
        split at hp
        · rename_i hz
          unfold intsOf at e1
          split at e1
          · cases r1 with
            | lst h1 h2 =>
              have e2 := ints_rep e1 h2
              subst e2
              refine ⟨_, ns, rfl, .inl (.inl (a1.sub _ _ h1)), hz, fun b n => ?_⟩
              have a2 := a1.step (Step.hid (o := SetO X.w b (fun j => decide (j ∈ ns)) (sortU ns).length) a1.sub n)
              exact ⟨b, _, _, rfl, upd_same, Nat.le_trans (sortU_len ns) hz, hp _ S1 _ a2 (.int _)⟩
          · cases e1
        · exact hp.elim
@[simp] theorem ap_dSortSet {ρ : Env} : dSortSet da ρ = (da ρ).bind fun p ρ1 => match intsOf p with
  | some ns => if ns.length ≤ 4000 ∧ (sortU ns).length < 64 then .ok (.lst ((sortU ns).map .int)) ρ1 else .bad
  | none => .bad := id rfl
@[simp] theorem ap_dLenSet {ρ : Env} : dLenSet da ρ = (da ρ).bind fun p ρ1 => match intsOf p with
  | some ns => if ns.length ≤ 4000 then .ok (.int (sortU ns).length) ρ1 else .bad
  | none => .bad := id rfl
end
end PL

set_option Elab.async false
set_option linter.all false
set_option maxRecDepth 100000
set_option maxHeartbeats 4000000
namespace PL
open PySem PySem.Spec L2
set_option autoImplicit false
/-! ### a body, statement by statement -/
theorem sq_step {a b : DenS} {ρ ρ1 : Env} {r : RS} (h : a ρ = .nx ρ1) (h2 : b ρ1 = r) : sSeq a b ρ = r := by rw [seq_nx h]; exact h2
theorem szn {n : Nat} (h : n ≤ 1000000) : n ≤ sizeLine := by rw [sizeLine_eq]; omega
theorem szl {n : Nat} (h : n ≤ 1000000) : n < sizeLine := by rw [sizeLine_eq]; omega
theorem smI {i : Int} (h1 : -1000000000000000000 ≤ i) (h2 : i ≤ 1000000000000000000) : smallI i = true := by
  unfold smallI
  simp only [Bool.and_eq_true, decide_eq_true_eq]
  omega
theorem tkn {ds : List Int} {m : Nat} (h : 0 < m) : ∃ v : Nat, v < m ∧ (tk ds m).1 = v := by
  have h1 := tk_lt (ds := ds) (m := (m : Int)) (by omega)
  obtain ⟨v, hv⟩ := Int.eq_ofNat_of_zero_le h1.1
  exact ⟨v, by omega, hv⟩
theorem take_nat (ds : List Int) (m : Nat) (h : 0 < m) : ∃ (v : Nat) (ds' : List Int), v < m ∧ F_take [dk ds, .int (m : Int)] = .ok (.int (v : Int)) (dk ds') := by
  obtain ⟨v, h1, h2⟩ := tkn (ds := ds) h
  exact ⟨v, _, h1, by rw [F_take_eq (by omega), h2]⟩
theorem take_int (ds : List Int) (m : Int) (h : 0 < m) : ∃ (v : Int) (ds' : List Int), 0 ≤ v ∧ v < m ∧ F_take [dk ds, .int m] = .ok (.int v) (dk ds') := by
  have h1 := tk_lt (ds := ds) (m := m) h
  exact ⟨_, _, h1.1, h1.2, F_take_eq h⟩
/-! ### comprehensions without an effect -/
theorem lc_mapG {own : List Nat} {tg : DenG} {E : Den} {α : Type} (g f : α → PV) (ρ : Env) : ∀ (l : List α), (∀ c ∈ l, ∃ ρ1 ρ2, tg (g c) ρ = some ρ1 ∧ E ρ1 = .ok (f c) ρ2 ∧ noOw ρ2 = true ∧ wipeE own ρ2 = ρ) → lcLoop own tg bYes E (l.map g) ρ = some (l.map f, ρ)
  | [], _ => rfl
  | c :: l, h => by
    obtain ⟨ρ1, ρ2, h1, h2, h3, h4⟩ := h c List.mem_cons_self
    have ih := lc_mapG (own := own) (tg := tg) (E := E) g f ρ l fun d hd => h d (List.mem_cons_of_mem _ hd)
    rw [List.map_cons, lcLoop]
    simp only [h1, h2, h3, if_true, h4, ap_bYes, ih, List.map_cons]
theorem lc_filter {own : List Nat} {tg : DenG} {T : DenB} {E : Den} {α : Type} (g f : α → PV) (t : α → Bool) (ρ : Env) : ∀ (l : List α), (∀ c ∈ l, ∃ ρ1 ρ2, tg (g c) ρ = some ρ1 ∧ T ρ1 = .ok (t c) ρ2 ∧ if t c = true then ∃ ρ3, E ρ2 = .ok (f c) ρ3 ∧ noOw ρ3 = true ∧ wipeE own ρ3 = ρ else noOw ρ2 = true ∧ wipeE own ρ2 = ρ) → lcLoop own tg T E (l.map g) ρ = some ((l.filter t).map f, ρ)
  | [], _ => rfl
  | c :: l, h => by
    obtain ⟨ρ1, ρ2, h1, h2, h3⟩ := h c List.mem_cons_self
    have ih := lc_filter (own := own) (tg := tg) (T := T) (E := E) g f t ρ l fun d hd => h d (List.mem_cons_of_mem _ hd)
    rw [List.map_cons, lcLoop]
    cases ht : t c with
    | true =>
      rw [if_pos ht] at h3
      obtain ⟨ρ3, h4, h5, h6⟩ := h3
      simp only [h1, h2, ht, h4, h5, if_true, h6, ih, List.filter_cons, List.map_cons]
    | false =>
      rw [if_neg (by simp [ht])] at h3
      simp only [h1, h2, ht, h3.1, if_true, h3.2, ih, List.filter_cons, Bool.false_eq_true, if_false]
theorem ints_map : ∀ l : List Int, ints? (l.map .int) = some l
  | [] => rfl
  | i :: l => by simp [ints?, ints_map l]
theorem ints_mapF {α : Type} (f : α → Int) : ∀ l : List α, ints? (l.map fun c => PV.int (f c)) = some (l.map f)
  | [] => rfl
  | i :: l => by simp [ints?, ints_mapF f l]
theorem rangeP_map (lo : Int) (n : Nat) : rangeP lo n = (List.range n).map fun i => PV.int (lo + (i : Nat)) := rfl
/-! ### equal data -/
theorem okD_lay : ∀ (n : Nat) (p : PV), okD n p = true → p.toD.canLay0 = true ∧ p.toD.depth ≤ n
  | 0, p, h => by simp [okD] at h
  | n + 1, p, h => by
    have ih := okD_lay n
    have seq : ∀ (ps : List PV), okDs n ps = true → (PV.lst ps).toD.canLay0 = true ∧ (PV.lst ps).toD.depth ≤ n + 1 ∧ (PV.tup ps).toD.canLay0 = true ∧ (PV.tup ps).toD.depth ≤ n + 1 := by
      intro ps h3
      have h3 := okDs_iff.mp h3
      have h4 : PyData.canLayAll0 (toDs ps) = true := canAll_iff.mpr fun q hq => (ih q (h3 q hq)).1
      have h5 : PyData.depthAll (toDs ps) ≤ n := depthAll_le fun q hq => (ih q (h3 q hq)).2
      refine ⟨?_, ?_, ?_, ?_⟩
      · simp only [PV.toD, PyData.canLay0]; exact h4
      · simp only [PV.toD, PyData.depth]; omega
      · simp only [PV.toD, PyData.canLay0]; exact h4
      · simp only [PV.toD, PyData.depth]; omega
    cases p with
    | lst ps =>
      have h : ps.length ≤ 100000 ∧ okDs n ps = true := by simpa [okD] using h
      exact ⟨(seq ps h.2).1, (seq ps h.2).2.1⟩
    | tup ps =>
      have h : ps.length ≤ 100000 ∧ okDs n ps = true := by simpa [okD] using h
      exact ⟨(seq ps h.2).2.2.1, (seq ps h.2).2.2.2⟩
    | ktup ps =>
      have h : ps.length ≤ 100000 ∧ okDs n ps = true := by simpa [okD] using h
      exact ⟨(seq ps h.2).2.2.1, (seq ps h.2).2.2.2⟩
    | non => exact ⟨by decide +kernel, by simp [PV.toD, PyData.depth]⟩
    | bl b => cases b <;> exact ⟨by decide +kernel, by simp [PV.toD, PyData.depth]⟩
    | int i => exact ⟨by simp [PV.toD, PyData.canLay0], by simp [PV.toD, PyData.depth]⟩
    | str x =>
      have h : PyData.canLay0 (.str x) = true := by simpa [okD] using h
      exact ⟨by simpa [PV.toD] using h, by simp [PV.toD, PyData.depth]⟩
    | klst ps => simp [okD] at h
    | dic t ks vs => simp [okD] at h
    | fn a => simp [okD] at h
    | obj a b c => simp [okD] at h
theorem okD_shaped {n : Nat} {p : PV} (h : okD n p = true) (hn : n ≤ 64) : SeqAt.shaped p.toD = true := by
  obtain ⟨h1, h2⟩ := okD_lay n p h
  simp only [SeqAt.shaped, h1, Bool.true_and, decide_eq_true_eq]
  omega
theorem pvEq_refl {n : Nat} {p : PV} (h : okD n p = true) : pvEq p p = true := SeqAt.eqv_refl _ (okD_lay n p h).1
theorem gEq_same {n : Nat} {p : PV} (h : okD n p = true) (hn : n ≤ 64) : gEq p p = some (.bl true) := by
  unfold gEq
  rw [okD_shaped h hn, pvEq_refl h]
  rfl
theorem gNe_same {n : Nat} {p : PV} (h : okD n p = true) (hn : n ≤ 64) : gNe p p = some (.bl false) := by
  unfold gNe
  rw [okD_shaped h hn, pvEq_refl h]
  rfl
theorem gEq_of {n : Nat} {p q : PV} (h : okD n p = true) (h' : okD n q = true) (hn : n ≤ 64) : gEq p q = some (.bl (pvEq p q)) := by
  unfold gEq
  rw [okD_shaped h hn, okD_shaped h' hn]
  rfl
theorem gNe_of {n : Nat} {p q : PV} (h : okD n p = true) (h' : okD n q = true) (hn : n ≤ 64) : gNe p q = some (.bl (!pvEq p q)) := by
  unfold gNe
  rw [okD_shaped h hn, okD_shaped h' hn]
  rfl
def isS (r : FR) (z : Str) : Bool := match r with
  | .ok (.str x) .non => x == z
  | _ => false
theorem isS_ok {r : FR} {z : Str} (h : isS r z = true) : r = .ok (.str z) .non := by
  unfold isS at h
  split at h
  · rw [beq_iff_eq] at h
    subst h
    rfl
  · cases h
/-! ### slots given back, one by one -/
def backR (own : List Nat) : Nat → Env → Env → Env
  | _, [], _ => []
  | k, s :: r, [] => (if own.contains k then clean s else Sl.back s .un) :: backR own (k + 1) r []
  | k, s :: r, t :: r' => (if own.contains k then clean s else Sl.back s t) :: backR own (k + 1) r r'
theorem backR_eq (own : List Nat) : ∀ (ρ ρ' : Env) (k : Nat), backR own k ρ ρ' = (List.range ρ.length).map fun i => if own.contains (k + i) then clean (ρ.getD i .un) else Sl.back (ρ.getD i .un) (ρ'.getD i .un)
  | [], _, _ => by simp [backR]
  | s :: r, [], k => by
    rw [backR, backR_eq own r [] (k + 1), List.length_cons, List.range_succ_eq_map]
    simp [Nat.add_assoc, Nat.add_comm 1, Function.comp_def]
  | s :: r, t :: r', k => by
    rw [backR, backR_eq own r r' (k + 1), List.length_cons, List.range_succ_eq_map]
    simp [Nat.add_assoc, Nat.add_comm 1, Function.comp_def]
theorem ap_backE {own : List Nat} {ρ ρ' : Env} : backE own ρ ρ' = backR own 0 ρ ρ' := by
  rw [backR_eq]
  simp [backE]
theorem ceil_nat (a m : Nat) (hm : 0 < m) : -(-(a : Int) / (m : Int)) = (((a + m - 1) / m : Nat) : Int) := by
  have h1 := Nat.div_add_mod (a + m - 1) m
  have h2 := Nat.mod_lt (a + m - 1) hm
  generalize (a + m - 1) / m = q at *
  generalize (a + m - 1) % m = r at *
  have h3 : -(a : Int) = ((m - 1 - r : Nat) : Int) + (m : Int) * (-(q : Int)) := by
    have h4 : ((m * q + r : Nat) : Int) = ((a + m - 1 : Nat) : Int) := by rw [h1]
    rw [Int.natCast_add, Int.natCast_mul] at h4
    rw [Int.mul_neg]
    omega
  rw [h3, Int.add_mul_ediv_left _ _ (by omega), Int.ediv_eq_zero_of_lt (by omega) (by omega)]
  omega
/-! ### a def's answer by its body's -/
section
variable {io fr : Bool} {n len : Nat} {d : DenS} {ps : List PV} {env ρ : Env} {p q : PV} {x : Exn}
theorem run_rt (e : d env = .rt p ρ) (hl : ps.length = n := by rfl) (henv : argSl false ps ++ List.replicate (len - n) .un = env := by rfl) : runD false fr n len d ps = .ok p .non := by
  unfold runD
  rw [if_pos hl, henv, e]
  rfl
theorem run_nx (e : d env = .nx ρ) (hl : ps.length = n := by rfl) (henv : argSl false ps ++ List.replicate (len - n) .un = env := by rfl) : runD false false n len d ps = .ok .non .non := by
  unfold runD
  rw [if_pos hl, henv, e]
  rfl
theorem run_exc (e : d env = .exc x ρ) (hl : ps.length = n := by rfl) (henv : argSl io ps ++ List.replicate (len - n) .un = env := by rfl) : runD io fr n len d ps = .exc x := by
  unfold runD
  rw [if_pos hl, henv, e]
theorem run_io (e : d env = .rt p (.io q :: ρ)) (hl : ps.length = n := by rfl) (henv : argSl true ps ++ List.replicate (len - n) .un = env := by rfl) : runD true fr n len d ps = .ok p q := by
  unfold runD
  rw [if_pos hl, henv, e]
  rfl
theorem run_ionx (e : d env = .nx (.io q :: ρ)) (hl : ps.length = n := by rfl) (henv : argSl true ps ++ List.replicate (len - n) .un = env := by rfl) : runD true false n len d ps = .ok .non q := by
  unfold runD
  rw [if_pos hl, henv, e]
  rfl
end
/-! ### equality, part by part -/
def pvEqs (xs ys : List PV) : Bool := PyData.eqvAll (toDs xs) (toDs ys)
section
variable {x y : PV} {xs ys : List PV}
theorem pvEq_lst : pvEq (.lst xs) (.lst ys) = pvEqs xs ys := by simp [pvEq, PV.toD, PyData.eqv, pvEqs]
theorem pvEq_tup : pvEq (.tup xs) (.tup ys) = pvEqs xs ys := by simp [pvEq, PV.toD, PyData.eqv, pvEqs]
theorem pvEq_str (a b : Str) : pvEq (.str a) (.str b) = decide (a = b) := eqv_str a b
theorem pvEq_bl (a b : Bool) : pvEq (.bl a) (.bl b) = (a == b) := by simp [pvEq, PV.toD, PyData.eqv]
theorem pvEqs_nil : pvEqs [] [] = true := by simp [pvEqs, toDs, PyData.eqvAll]
theorem pvEqs_cons : pvEqs (x :: xs) (y :: ys) = (pvEq x y && pvEqs xs ys) := by simp [pvEqs, toDs, PyData.eqvAll, pvEq]
theorem pvEqs_nc : pvEqs [] (y :: ys) = false := by simp [pvEqs, toDs, PyData.eqvAll]
theorem pvEqs_cn : pvEqs (x :: xs) [] = false := by simp [pvEqs, toDs, PyData.eqvAll]
end
theorem pvEqs_len : ∀ {xs ys : List PV}, pvEqs xs ys = true → xs.length = ys.length
  | [], [], _ => rfl
  | [], _ :: _, h => by rw [pvEqs_nc] at h; cases h
  | _ :: _, [], h => by rw [pvEqs_cn] at h; cases h
  | x :: xs, y :: ys, h => by
    rw [pvEqs_cons, Bool.and_eq_true] at h
    simp [pvEqs_len h.2]
theorem pvEqs_map {α : Type} [DecidableEq α] {f : α → PV} (hf : ∀ x y, pvEq (f x) (f y) = decide (x = y)) : ∀ l m : List α, pvEqs (l.map f) (m.map f) = decide (l = m)
  | [], [] => pvEqs_nil
  | [], _ :: _ => by simp [pvEqs_nc]
  | _ :: _, [] => by simp [pvEqs_cn]
  | x :: l, y :: m => by
    rw [List.map_cons, List.map_cons, pvEqs_cons, hf, pvEqs_map hf l m]
    simp
theorem okDs_map {α : Type} {n : Nat} {f : α → PV} {l : List α} (h : ∀ x ∈ l, okD n (f x) = true) : okDs n (l.map f) = true := by
  rw [okDs_iff]
  intro p hp
  obtain ⟨x, hx, rfl⟩ := List.mem_map.mp hp
  exact h x hx
theorem okD_lst {n : Nat} {ps : List PV} (h1 : ps.length ≤ 100000) (h2 : okDs n ps = true) : okD (n + 1) (.lst ps) = true := by simp [okD, h1, h2]
theorem okD_tup {n : Nat} {ps : List PV} (h1 : ps.length ≤ 100000) (h2 : okDs n ps = true) : okD (n + 1) (.tup ps) = true := by simp [okD, h1, h2]
theorem okD_int {n : Nat} (i : Int) : okD (n + 1) (.int i) = true := rfl
theorem okD_bl {n : Nat} (i : Bool) : okD (n + 1) (.bl i) = true := rfl
theorem okD_non {n : Nat} : okD (n + 1) .non = true := rfl
theorem okD_st {n : Nat} {l : List Nat} (h : asc l) : okD (n + 1) (.str (st l)) = true := by
  show PyData.canLay0 (.str (st l)) = true
  simp only [PyData.canLay0]
  exact strOk_st h
/-! ### comprehensions over one name, without an effect -/
theorem noOw_setS {i : Nat} {p : PV} : ∀ {ρ : Env}, noOw ρ = true → noOw (ρ.set i (.sh p)) = true := by
  intro ρ
  induction ρ generalizing i with
  | nil => intro h; simpa using h
  | cons s r ih =>
    intro h
    rw [noOw_cons, Bool.and_eq_true] at h
    cases i with
    | zero => simp [h.2]
    | succ i => rw [List.set_cons_succ, noOw_cons, h.1, ih h.2]; rfl
theorem set_un {ρ : Env} {i : Nat} {s : Sl} (h : ρ[i]? = some .un) : (ρ.set i s).set i .un = ρ := by
  rw [List.set_set]
  obtain ⟨hi, e⟩ := List.getElem?_eq_some_iff.mp h
  rw [← e]
  exact List.set_getElem_self hi
theorem lc_pure {α : Type} {i : Nat} {E : Den} {ρ : Env} (g f : α → PV) (l : List α) (h0 : ρ[i]? = some .un) (h1 : noOw ρ = true) (hE : ∀ c ∈ l, E (ρ.set i (.sh (g c))) = .ok (f c) (ρ.set i (.sh (g c)))) :
    lcLoop [i] (gName i) bYes E (l.map g) ρ = some (l.map f, ρ) :=
  lc_mapG g f ρ l fun c hc => ⟨_, _, rfl, hE c hc, noOw_setS h1, by simp only [wipeE]; exact set_un h0⟩
theorem lc_pureR {i n : Nat} {E : Den} {ρ : Env} (f : Nat → PV) (h0 : ρ[i]? = some .un) (h1 : noOw ρ = true) (hE : ∀ c, c < n → E (ρ.set i (.sh (.int (c : Nat)))) = .ok (f c) (ρ.set i (.sh (.int (c : Nat))))) :
    lcLoop [i] (gName i) bYes E (rangeP 0 n) ρ = some ((List.range n).map f, ρ) := by
  have e : rangeP 0 n = (List.range n).map fun i : Nat => PV.int (i : Int) := by simp [rangeP_map]
  rw [e]
  exact lc_pure (fun c : Nat => PV.int (c : Int)) f _ h0 h1 fun c hc => hE c (List.mem_range.mp hc)
theorem lc_pureF {α : Type} {i : Nat} {T : DenB} {E : Den} {ρ : Env} (g f : α → PV) (t : α → Bool) (l : List α) (h0 : ρ[i]? = some .un) (h1 : noOw ρ = true) (hT : ∀ c ∈ l, T (ρ.set i (.sh (g c))) = .ok (t c) (ρ.set i (.sh (g c)))) (hE : ∀ c ∈ l, t c = true → E (ρ.set i (.sh (g c))) = .ok (f c) (ρ.set i (.sh (g c)))) :
    lcLoop [i] (gName i) T E (l.map g) ρ = some ((l.filter t).map f, ρ) :=
  lc_filter g f t ρ l fun c hc => by
    refine ⟨_, _, rfl, hT c hc, ?_⟩
    split
    · rename_i h
      exact ⟨_, hE c hc h, noOw_setS h1, by simp only [wipeE]; exact set_un h0⟩
    · exact ⟨noOw_setS h1, by simp only [wipeE]; exact set_un h0⟩
theorem at0 {α : Type} (a : α) (l : List α) : L2.atI (a :: l) (0 : Int) = some a := atI_nat (xs := a :: l) (i := 0) (by simp)
theorem at1 {α : Type} (a b : α) (l : List α) : L2.atI (a :: b :: l) (1 : Int) = some b := atI_nat (xs := a :: b :: l) (i := 1) (by simp)
theorem at2 {α : Type} (a b c : α) (l : List α) : L2.atI (a :: b :: c :: l) (2 : Int) = some c := atI_nat (xs := a :: b :: c :: l) (i := 2) (by simp)
theorem at3 {α : Type} (a b c d : α) (l : List α) : L2.atI (a :: b :: c :: d :: l) (3 : Int) = some d := atI_nat (xs := a :: b :: c :: d :: l) (i := 3) (by simp)
@[simp] theorem ap_listOfL (ps : List PV) : gListOf [.lst ps] = some (.lst ps) := id rfl
@[simp] theorem ap_listOfT (ps : List PV) : gListOf [.tup ps] = some (.lst ps) := id rfl
theorem ap_sortedI (l : List Int) : gSorted [.lst (l.map .int)] = some (.lst ((sortI l).map .int)) := by simp [gSorted, ints_map]
theorem ap_sumI (l : List Int) : gSumN [.lst (l.map .int)] = some (.int l.sum) := by simp [gSumN, ints_map]
end PL

set_option Elab.async false
set_option linter.all false
set_option maxRecDepth 100000
set_option maxHeartbeats 4000000
namespace PL
open PySem PySem.Spec L2
set_option autoImplicit false
/-! ### a local name that holds one of two defs of the module -/
def spN (sp : Sp) : Sp := fun vs H Q _ => sp vs H Q fun _ _ _ => False
theorem FnOk.calm {P : Program} {w : World} {K : PySem.W.Frag} {mg : Str → Option Value} {base : Heap} {k : Nat} {f : Addr} {fd : FuncData} {ps : List Str} {sp : Sp} (F : FnOk P w K mg base (L2.CX P w) k f fd ps sp) : FnOk P w K mg base CX0 k f fd ps (spN sp) :=
  ⟨fun vs H Q E h => F.len vs H Q _ h, fun A outer s H args us vs Q E hr he hb hv hs => codeAny_mono (F.run A outer s H args us vs Q (fun _ _ _ => False) hr he hb hv hs) fun r s' z => by
    cases r with
    | ok fin => cases fin <;> exact z
    | error e =>
      obtain ⟨_, _, _, _, _, _, _, _, _, _, _, _, z⟩ := z
      exact z.elim⟩
def dCallV (i : Nat) (x1 : Str) (F1 : List PV → FR) (x2 : Str) (F2 : List PV → FR) (dl : DenL) : Den := fun ρ => match ρ[i]? with
  | some (.sh (.fn x)) => if x = x1 then (dl ρ).bind fun ps ρ1 => (match F1 ps with
      | .ok p _ => .ok p ρ1
      | _ => .bad) else if x = x2 then (dl ρ).bind fun ps ρ1 => (match F2 ps with
      | .ok p _ => .ok p ρ1
      | _ => .bad) else .bad
  | _ => .bad
section
variable {X : Cx} {W : WX} {fr : Bool} {k j1 j2 n1 n2 : Nat} {pos p : Pos} {e : Expr} {es : List Expr} {dl : DenL} {x x1 x2 : Str} {F1 F2 : List PV → FR}
theorem callV_one {K : PySem.W.Frag} {mg : Str → Option Value} {n : Nat} {F : List PV → FR} {ta : TA} {H₀ S₀ : Hp} {M : Addr → Prop} {S H : Hp} {σ : St} {ρ : Env} {Q : VK} (ha : AOk K mg W ta dl) (hn : ∀ ps, F ps ≠ .bad → ps.length = n) (ab : Abs K H₀ S₀ M S σ H ρ)
    (hp : Post K mg W (rV K) H₀ S₀ M σ ((dl ρ).bind fun ps ρ1 => (match F ps with
      | .ok p _ => .ok p ρ1
      | _ => .bad)) Q) : ta σ H fun vs H1 => spN (spD K mg false false n F) vs H1 Q (fun _ _ _ => False) :=
  ha.bind (Rl' := rV K) ab hp fun ps ρ1 vs S1 H1 _ a1 _ r hp => by
    cases e : F ps with
    | bad => simp only [e] at hp; exact hp.elim
    | exc x => simp only [e] at hp; exact hp.elim
    | ok p q =>
      simp only [e] at hp
      refine call_pre a1 r (hn ps (by rw [e]; intro z; cases z)) ?_
      simp only [e]
      exact fun v S' H' st rv => hp v S' H' (a1.step st) rv
theorem de_callV (i : Nat) (G1 : Fd X.prog X.w X.K X.mg X.base x1 j1 false false n1 F1) (m1 : X.mg x1 = some (.ref (He.ga X.K x1))) (G2 : Fd X.prog X.w X.K X.mg X.base x2 j2 false false n2 F2) (m2 : X.mg x2 = some (.ref (He.ga X.K x2))) (c : Ctx X W k) (ha : DA X W (e :: es) dl) (h1 : j1 ≤ k := by decide) (h2 : j2 ≤ k := by decide)
    (hN : X.N[i]? = some x := by rfl) (hv : Vis X.env.scope x := by first | exact Or.inl rfl | exact Or.inr (Or.inl rfl) | exact Or.inr (Or.inr rfl)) (hd : (x == ("__debug__" : Str)) = false := by decide) (hcd : (x == ("__classdict__" : Str)) = false := by decide)
    (he : starEach (e :: es) X.env = (false, eval e X.env) :: starEach es X.env := by rfl) (hpl : (backTo pos (starEach es X.env)).any (·.1) = false := by rfl) : DE X W (.Call (.Name x p) (e :: es) [] pos) (dCallV i x1 F1 x2 F2 dl) := by
  obtain ⟨f1, fd1, ps1, a1, b1, c1, d1⟩ := G1.ex
  obtain ⟨f2, fd2, ps2, a2, b2, c2, d2⟩ := G2.ex
  have e1 := b1.symm.trans m1
  have e2 := b2.symm.trans m2
  cases e1
  cases e2
  refine DE.of (C8.pe_cv (sp1 := spN (spD X.K X.mg false false n1 F1)) (sp2 := spN (spD X.K X.mg false false n2 F2)) ⟨_, _, FnOk.calm a1, c1, d1⟩ ⟨_, _, FnOk.calm a2, c2, d2⟩ c.room h1 h2 hN hv ha hd hcd he hpl) ?_
  intro H₀ S₀ M S σ H ρ Q ab hp
  unfold dCallV at hp
  split at hp
  · rename_i y ey
    obtain ⟨v, hv, rv⟩ := ab.sh i _ ey
    cases rv
    split at hp
    · rename_i hz
      subst hz
      exact .inl ⟨hv, callV_one canon_ok G1.len ab hp⟩
    · split at hp
      · rename_i hz
        subst hz
        exact .inr ⟨hv, callV_one canon_ok G2.len ab hp⟩
      · exact hp.elim
  · exact hp.elim
theorem de_fn (m : X.mg x = some (.ref (He.ga X.K x))) (hg : Gl X x := by rfl) (hd : (x == ("__debug__" : Str)) = false := by decide) : DE X W (.Name x pos) (dC (.fn x)) := de_glob (v := .ref (He.ga X.K x)) m rfl (fun _ => .fn _) hg hd
@[simp] theorem ap_dCallV {i : Nat} {ρ : Env} : dCallV i x1 F1 x2 F2 dl ρ = match ρ[i]? with
  | some (.sh (.fn x)) => if x = x1 then (dl ρ).bind fun ps ρ1 => (match F1 ps with
      | .ok p _ => .ok p ρ1
      | _ => .bad) else if x = x2 then (dl ρ).bind fun ps ρ1 => (match F2 ps with
      | .ok p _ => .ok p ρ1
      | _ => .bad) else .bad
  | _ => .bad := id rfl
end
end PL

set_option Elab.async false
set_option linter.all false
set_option maxRecDepth 100000
set_option maxHeartbeats 4000000
namespace PL
open PySem PySem.Spec L2
set_option autoImplicit false
/-! ### d[k] = v -/
def putVs : List PV → List PV → PV → PV → List PV
  | k :: ks, v :: vs, q, e => (if kEq k q = true then e else v) :: putVs ks vs q e
  | _, _, _, _ => []
def dPutQ (ks vs : List PV) (q e : PV) : List PV × List PV := if ks.any (fun k => kEq k q) = true then (ks, putVs ks vs q e) else (ks ++ [q], vs ++ [e])
theorem kEq_key (a b : Key) : kEq (keyPV a) (keyPV b) = decide (a = b) := by
  unfold kEq
  rw [kk?_key, kk?_key]
  by_cases h : a = b <;> simp [h]
section
variable {K : PySem.W.Frag} {S : Hp} {κ : Type} [DecidableEq κ] {f : κ → PV}
theorem put_any (hf : ∀ a b, kEq (f a) (f b) = decide (a = b)) (k : κ) : ∀ kvs : List (κ × V), (kvs.map fun p => f p.1).any (fun q => kEq q (f k)) = kvs.any fun kv => decide (kv.1 = k)
  | [] => rfl
  | p :: kvs => by simp [hf, Function.comp_def]
theorem put_keys (k : κ) (v : V) (kvs : List (κ × V)) : ((kvs.map fun kv => if kv.1 = k then (kv.1, v) else kv).map fun p => f p.1) = kvs.map fun p => f p.1 := by
  rw [List.map_map]
  refine List.map_congr_left fun p _ => ?_
  simp only [Function.comp]
  split <;> rfl
theorem put_vals (hf : ∀ a b, kEq (f a) (f b) = decide (a = b)) {k : κ} {v : V} {e : PV} (re : Rep K S e v) : ∀ {kvs : List (κ × V)} {ps : List PV}, RepL K S ps (kvs.map (·.2)) → RepL K S (putVs (kvs.map fun p => f p.1) ps (f k) e) ((kvs.map fun kv => if kv.1 = k then (kv.1, v) else kv).map (·.2))
  | [], _, h => by cases h; exact .nil
  | p :: kvs, _, h => by
    cases h with
    | cons h1 h2 =>
      have ih := put_vals hf (k := k) re h2
      simp only [List.map_cons, putVs, hf]
      by_cases hz : p.1 = k
      · simp only [hz, decide_true, if_true]
        exact .cons re ih
      · simp only [hz, decide_false, if_false, Bool.false_eq_true]
        exact .cons h1 ih
end
section
variable {K : PySem.W.Frag} {S : Hp}
theorem OwnO.putK {kvs : List (Key × V)} {ks ps : List PV} {k : Key} {v : V} {e : PV} (h : OwnO K S (.dic false ks ps) (.dK kvs)) (re : Rep K S e v) : OwnO K S (.dic false (dPutQ ks ps (keyPV k) e).1 (dPutQ ks ps (keyPV k) e).2) (.dK (L2.putK kvs k v)) := by
  obtain ⟨rfl, h⟩ := h
  unfold dPutQ L2.putK
  rw [put_any kEq_key]
  by_cases hz : (kvs.any fun kv => decide (kv.1 = k)) = true
  · rw [if_pos hz, if_pos hz]
    exact ⟨(put_keys k v kvs).symm, put_vals kEq_key re h⟩
  · rw [if_neg hz, if_neg hz]
    exact ⟨by simp, by rw [List.map_append]; exact h.append (.cons re .nil)⟩
theorem OwnO.putT {kvs : List (List Key × V)} {ks ps : List PV} {k : List Key} {v : V} {e : PV} (h : OwnO K S (.dic true ks ps) (.dT kvs)) (re : Rep K S e v) : OwnO K S (.dic true (dPutQ ks ps (.tup (k.map keyPV)) e).1 (dPutQ ks ps (.tup (k.map keyPV)) e).2) (.dT (L2.putK kvs k v)) := by
  obtain ⟨rfl, h⟩ := h
  unfold dPutQ L2.putK
  rw [put_any (f := fun k : List Key => PV.tup (k.map keyPV)) kEq_keys]
  by_cases hz : (kvs.any fun kv => decide (kv.1 = k)) = true
  · rw [if_pos hz, if_pos hz]
    exact ⟨(put_keys (f := fun k : List Key => PV.tup (k.map keyPV)) k v kvs).symm, put_vals (f := fun k : List Key => PV.tup (k.map keyPV)) kEq_keys re h⟩
  · rw [if_neg hz, if_neg hz]
    exact ⟨by simp, by rw [List.map_append]; exact h.append (.cons re .nil)⟩
end
def sPutD (i : Nat) (db da : Den) : DenS := fun ρ => (da ρ).bindS fun e ρ1 => match ownAt ρ1 i with
  | none => .bad
  | some _ => (db ρ1).bindS fun k ρ2 => match ownAt ρ2 i with
    | some (s, .dic t ks vs) => if (kGood t k && decide (ks.length < 100000)) = true then .nx (ρ2.set i (s.with (.dic t (dPutQ ks vs k e).1 (dPutQ ks vs k e).2))) else .bad
    | _ => .bad
section
variable {X : Cx} {W : WX} {fr : Bool} {k : Nat} {pos p p2 : Pos} {e a : Expr} {da db : Den} {x : Str}
theorem so_putD {K : PySem.W.Frag} {mg : Str → Option Value} {i : Nat} {ti te : TE} (hi : EOk K mg W ti db) (ha : EOk K mg W te da) : SOk K mg W fr (sDPut (tVar i) ti te) (sPutD i db da) := fun H₀ S₀ M S σ H ρ D ab hp =>
  ha.bindS ab hp fun e ρ1 y S1 H1 _ a1 _ ry hp => by
    cases e0 : ownAt ρ1 i with
    | none => rw [e0] at hp; exact hp.elim
    | some sp =>
      obtain ⟨s0, p0⟩ := sp
      rw [e0] at hp
      obtain ⟨e1, e2⟩ := ownAt_some e0
      obtain ⟨b, o, h1, h2, h3, h4, h5, h6⟩ := a1.own i _ _ e1 e2
      refine ⟨.ref b, h1, ?_⟩
      refine hi.bindS a1 hp fun q ρ2 x S2 H2 _ a2 s2 rx hp => ?_
      have rx : Rep K S2 q x := rx
      have ry : Rep K S1 e y := ry
      cases e3 : ownAt ρ2 i with
      | none => rw [e3] at hp; exact hp.elim
      | some sp =>
        obtain ⟨s, p⟩ := sp
        rw [e3] at hp
        obtain ⟨e4, e5⟩ := ownAt_some e3
        obtain ⟨b', o', k1, k2, k3, k4, k5, k6⟩ := a2.own i _ _ e4 e5
        rw [h1] at k1
        cases k1
        cases p with
        | dic t ks vs =>
          simp only at hp
          split at hp
          · rename_i hz
            simp only [Bool.and_eq_true, decide_eq_true_eq] at hz
            obtain ⟨hg, hl⟩ := hz
            obtain ⟨hg1, hg2⟩ := (Bool.and_eq_true _ _).mp hg
            have hs : (100000 : Nat) < sizeLine := by rw [sizeLine_eq]; decide
            refine ⟨b, ?_⟩
            have keyed : ∀ kk, key? q = some kk → ∃ H4, V.ref b = V.ref b ∧ DPut H2 b x y H4 ∧ D.nx σ H4 := fun kk hq => by
              have eq := key?_some hq
              subst eq
              have ex := rx.keyV
              subst ex
              cases t with
              | true => cases kk <;> cases hg2
              | false =>
                cases o' with
                | dK kvs =>
                  have hn : kvs.length < sizeLine := by
                    have : ks = kvs.map (fun p => keyPV p.1) := k6.1
                    rw [this, List.length_map] at hl
                    omega
                  exact ⟨_, rfl, DPut.k k5 hn, hp S2 σ _ (a2.mut e4 e5 h1 (OwnO.putK k6 (ry.up s2)))⟩
                | _ => exact k6.elim
            cases q with
            | tup qs =>
              cases rx with
              | tup g1 g2 =>
                rename_i c us
                have hk : ((keys? qs).map (Sum.inr : List Key → KK)).isSome = true := hg1
                cases hks : keys? qs with
                | none => rw [hks] at hk; cases hk
                | some kk =>
                  have eq := keys?_some hks
                  subst eq
                  have hx := a2.sub _ _ g1
                  rw [g2.keyVs] at hx
                  cases t with
                  | false => cases hg2
                  | true =>
                    cases o' with
                    | dT kvs =>
                      have hn : kvs.length < sizeLine := by
                        have : ks = kvs.map (fun p => .tup (p.1.map keyPV)) := k6.1
                        rw [this, List.length_map] at hl
                        omega
                      exact ⟨_, rfl, DPut.t k5 hx hn, hp S2 σ _ (a2.mut e4 e5 h1 (OwnO.putT k6 (ry.up s2)))⟩
                    | _ => exact k6.elim
            | int i => exact keyed (.inl i) rfl
            | str z => exact keyed (.inr z) rfl
            | _ => cases hg1
          · exact hp.elim
        | _ => exact hp.elim
theorem ds_putD (i : Nat) (c : Ctx X W k) (ho : PE X (.Name x p) (tVar i)) (hi : DE X W a db) (h : DE X W e da) (hs : swapsWith e (some (.Subscript (.Name x p) a p2)) pos.line X.env = pure false := by rfl) :
    DS X W fr (.Assign [.Subscript (.Name x p) a p2] e pos) (sPutD i db da) := DS.of (ps_dput (by have := c.hu; omega) ho hi h hs) (so_putD canon_ok canon_ok)
@[simp] theorem ap_sPutD {i : Nat} {ρ : Env} : sPutD i db da ρ = (da ρ).bindS fun e ρ1 => match ownAt ρ1 i with
  | none => .bad
  | some _ => (db ρ1).bindS fun k ρ2 => match ownAt ρ2 i with
    | some (s, .dic t ks vs) => if (kGood t k && decide (ks.length < 100000)) = true then .nx (ρ2.set i (s.with (.dic t (dPutQ ks vs k e).1 (dPutQ ks vs k e).2))) else .bad
    | _ => .bad := id rfl
end
end PL

set_option Elab.async false
set_option linter.all false
set_option maxRecDepth 100000
set_option maxHeartbeats 4000000
namespace PL
open PySem PySem.Spec L2
set_option autoImplicit false
/-! ### a dict walked: it is frozen meanwhile -/
def lk (b : Addr) (u : HO) (o : Obj) (H : Hp) : Hp := fun a => if a = b then (match H a with
  | some _ => some (.frz o u)
  | none => none) else H a
def ulk (b : Addr) (u : HO) (H : Hp) : Hp := fun a => if a = b then (match H a with
  | some _ => some u
  | none => none) else H a
def isD : HO → Prop
  | .dK _ => True
  | .dT _ => True
  | _ => False
section
variable {b a : Addr} {u x : HO} {o : Obj} {H : Hp}
theorem lk_ne (h : a ≠ b) : lk b u o H a = H a := if_neg h
theorem ulk_ne (h : a ≠ b) : ulk b u H a = H a := if_neg h
theorem lk_at (h : H b = some x) : lk b u o H b = some (.frz o u) := by simp [lk, h]
theorem ulk_at (h : H b = some x) : ulk b u H b = some u := by simp [ulk, h]
theorem lk_none (h : H a = none) : lk b u o H a = none := by
  unfold lk
  split
  · rw [h]
  · exact h
theorem lk_none' (h : lk b u o H a = none) : H a = none := by
  by_cases e : a = b
  · subst e
    cases q : H a with
    | none => rfl
    | some y => rw [lk_at q] at h; cases h
  · rwa [lk_ne e] at h
theorem lk_upd (h : H b = some x) : lk b u o H = upd H b (.frz o u) := by
  funext a
  by_cases e : a = b
  · subst e; rw [lk_at h, upd_same]
  · rw [lk_ne e, upd_ne e]
theorem ulk_upd (h : H b = some x) : ulk b u H = upd H b u := by
  funext a
  by_cases e : a = b
  · subst e; rw [ulk_at h, upd_same]
  · rw [ulk_ne e, upd_ne e]
end
section
variable {K : PySem.W.Frag} {b : Addr} {u : HO} {o : Obj}
theorem ne_lk {S : Hp} {a : Addr} {x : HO} (hu : isD u) (hS : ∀ x, S b = some x → x = u) (h : S a = some x) (hx : ¬ isD x) : a ≠ b := fun e => by
  subst e
  exact hx (hS x h ▸ hu)
theorem Rd.lk {S : Hp} {a : Addr} {x : HO} (hu : isD u) (hS : ∀ x, S b = some x → x = u) (h : Rd S a x) : Rd (lk b u o S) a x := by
  rcases h with h | ⟨o', h⟩
  · by_cases e : a = b
    · subst e
      rw [hS x h]
      exact .inr ⟨o, lk_at h⟩
    · exact .inl (by rw [lk_ne e]; exact h)
  · exact .inr ⟨o', by rw [lk_ne (ne_lk hu hS h fun z => z)]; exact h⟩
theorem Rd.ulk {S : Hp} {a : Addr} {x : HO} (hu : isD u) (hS : ∀ x, S b = some x → x = .frz o u) (h : Rd S a x) (hx : ∀ o' u', x ≠ .frz o' u') : Rd (ulk b u S) a x := by
  rcases h with h | ⟨o', h⟩
  · by_cases e : a = b
    · subst e
      exact (hx _ _ (hS x h)).elim
    · exact .inl (by rw [ulk_ne e]; exact h)
  · by_cases e : a = b
    · subst e
      have z := hS _ h
      cases z
      exact .inl (ulk_at h)
    · exact .inr ⟨o', by rw [ulk_ne e]; exact h⟩
section
variable {S : Hp} (hu : isD u) (hS : ∀ x, S b = some x → x = u)
include hu hS
mutual
theorem Rep.lk : ∀ (p : PV) (v : V), Rep K S p v → Rep K (PL.lk b u o S) p v
  | .non, _, h => by cases h; exact .non
  | .bl b, _, h => by cases h; exact .bl b
  | .int i, _, h => by cases h; exact .int i
  | .str x, _, h => by cases h; exact .str x
  | .fn a, _, h => by cases h; exact .fn a
  | .obj c ks ps, _, h => by cases h with | obj h1 h2 => exact .obj (by rw [lk_ne (ne_lk hu hS h1 fun z => z)]; exact h1) (RepL.lk ps _ h2)
  | .lst ps, _, h => by cases h with | lst h1 h2 => exact .lst (by rw [lk_ne (ne_lk hu hS h1 fun z => z)]; exact h1) (RepL.lk ps _ h2)
  | .tup ps, _, h => by cases h with | tup h1 h2 => exact .tup (by rw [lk_ne (ne_lk hu hS h1 fun z => z)]; exact h1) (RepL.lk ps _ h2)
  | .ktup ps, _, h => by
    cases h with
    | ktup h1 h2 =>
      refine .ktup ?_ (RepL.lk ps _ h2)
      rcases h1 with h1 | h1
      · exact .inl (Rd.lk hu hS h1)
      · exact .inr h1
  | .klst ps, _, h => by
    cases h with
    | klst h1 h2 =>
      refine .klst ?_ (RepL.lk ps _ h2)
      rcases h1 with h1 | h1
      · exact .inl (Rd.lk hu hS h1)
      · exact .inr h1
  | .dic t ks ps, _, h => by
    cases h with
    | dK h1 h2 => exact .dK (Rd.lk hu hS h1) (RepL.lk ps _ h2)
    | dT h1 h2 => exact .dT (Rd.lk hu hS h1) (RepL.lk ps _ h2)
theorem RepL.lk : ∀ (ps : List PV) (vs : List V), RepL K S ps vs → RepL K (PL.lk b u o S) ps vs
  | [], _, h => by cases h; exact .nil
  | p :: ps, _, h => by cases h with | cons h1 h2 => exact .cons (Rep.lk p _ h1) (RepL.lk ps _ h2)
end
end
section
variable {S : Hp} (hu : isD u) (hS : ∀ x, S b = some x → x = .frz o u)
include hu hS
theorem ne_ulk {a : Addr} {x : HO} (h : S a = some x) (hx : ∀ o' u', x ≠ .frz o' u') : a ≠ b := fun e => by
  subst e
  exact hx _ _ (hS x h)
mutual
theorem Rep.ulk : ∀ (p : PV) (v : V), Rep K S p v → Rep K (PL.ulk b u S) p v
  | .non, _, h => by cases h; exact .non
  | .bl b, _, h => by cases h; exact .bl b
  | .int i, _, h => by cases h; exact .int i
  | .str x, _, h => by cases h; exact .str x
  | .fn a, _, h => by cases h; exact .fn a
  | .obj c ks ps, _, h => by cases h with | obj h1 h2 => exact .obj (by rw [ulk_ne (ne_ulk hu hS h1 fun _ _ z => nomatch z)]; exact h1) (RepL.ulk ps _ h2)
  | .lst ps, _, h => by cases h with | lst h1 h2 => exact .lst (by rw [ulk_ne (ne_ulk hu hS h1 fun _ _ z => nomatch z)]; exact h1) (RepL.ulk ps _ h2)
  | .tup ps, _, h => by cases h with | tup h1 h2 => exact .tup (by rw [ulk_ne (ne_ulk hu hS h1 fun _ _ z => nomatch z)]; exact h1) (RepL.ulk ps _ h2)
  | .ktup ps, _, h => by
    cases h with
    | ktup h1 h2 =>
      refine .ktup ?_ (RepL.ulk ps _ h2)
      rcases h1 with h1 | h1
      · exact .inl (Rd.ulk hu hS h1 fun _ _ z => nomatch z)
      · exact .inr h1
  | .klst ps, _, h => by
    cases h with
    | klst h1 h2 =>
      refine .klst ?_ (RepL.ulk ps _ h2)
      rcases h1 with h1 | h1
      · exact .inl (Rd.ulk hu hS h1 fun _ _ z => nomatch z)
      · exact .inr h1
  | .dic t ks ps, _, h => by
    cases h with
    | dK h1 h2 => exact .dK (Rd.ulk hu hS h1 fun _ _ z => nomatch z) (RepL.ulk ps _ h2)
    | dT h1 h2 => exact .dT (Rd.ulk hu hS h1 fun _ _ z => nomatch z) (RepL.ulk ps _ h2)
theorem RepL.ulk : ∀ (ps : List PV) (vs : List V), RepL K S ps vs → RepL K (PL.ulk b u S) ps vs
  | [], _, h => by cases h; exact .nil
  | p :: ps, _, h => by cases h with | cons h1 h2 => exact .cons (Rep.ulk p _ h1) (RepL.ulk ps _ h2)
end
end
theorem OwnO.lk {S : Hp} (hu : isD u) (hS : ∀ x, S b = some x → x = u) {p : PV} {w : HO} (h : OwnO K S p w) : OwnO K (PL.lk b u o S) p w := by
  unfold OwnO at h ⊢
  split at h
  · exact RepL.lk hu hS _ _ h
  · exact ⟨h.1, RepL.lk hu hS _ _ h.2⟩
  · exact ⟨h.1, RepL.lk hu hS _ _ h.2⟩
  · exact ⟨h.1, h.2.1, RepL.lk hu hS _ _ h.2.2⟩
  · exact h.elim
theorem OwnO.ulk {S : Hp} (hu : isD u) (hS : ∀ x, S b = some x → x = .frz o u) {p : PV} {w : HO} (h : OwnO K S p w) : OwnO K (PL.ulk b u S) p w := by
  unfold OwnO at h ⊢
  split at h
  · exact RepL.ulk hu hS _ _ h
  · exact ⟨h.1, RepL.ulk hu hS _ _ h.2⟩
  · exact ⟨h.1, RepL.ulk hu hS _ _ h.2⟩
  · exact ⟨h.1, h.2.1, RepL.ulk hu hS _ _ h.2.2⟩
  · exact h.elim
section
variable {H₀ S₀ : Hp} {M : Addr → Prop} {S H : Hp} {σ : St} {ρ : Env}
theorem Abs.lk (a : Abs K H₀ S M S σ H ρ) (hu : isD u) (hb : S b = some u) : Abs K (PL.lk b u o H₀) (PL.lk b u o S) M (PL.lk b u o S) σ (PL.lk b u o H) ρ := by
  have hS : ∀ x, S b = some x → x = u := fun x e => by rw [hb] at e; cases e; rfl
  have hH : H b = some u := a.sub _ _ hb
  refine ⟨a.len, fun c x e => ?_, Same.refl _, fun _ _ e => .inl e, fun c x e m => ?_, fun c x e => ?_, fun i p e => ?_, fun i s p e es => ?_, a.dis⟩
  · by_cases h : c = b
    · subst h; rw [lk_at hb] at e; cases e; exact lk_at hH
    · rw [lk_ne h] at e ⊢; exact a.sub _ _ e
  · by_cases h : c = b
    · subst h
      cases q : H₀ c with
      | none => rw [lk_none q] at e; cases e
      | some y => rw [lk_at q] at e; cases e; exact lk_at hH
    · rw [lk_ne h] at e ⊢; exact a.keep _ _ e m
  · by_cases h : c = b
    · subst h; exact ⟨_, lk_at hH⟩
    · rw [lk_ne h] at e ⊢; exact a.there _ _ e
  · obtain ⟨v, h1, h2⟩ := a.sh i p e
    exact ⟨v, h1, Rep.lk hu hS _ _ h2⟩
  · obtain ⟨c, w, h1, h2, h3, h4, h5, h6⟩ := a.own i s p e es
    have hc : c ≠ b := fun z => by subst z; rw [hb] at h4; cases h4
    exact ⟨c, w, h1, fun z => lk_none (h2 z), h3, lk_none h4, by rw [lk_ne hc]; exact h5, OwnO.lk hu hS h6⟩
theorem Abs.ulk {S' H' : Hp} {σ' : St} {ρ' : Env} (a0 : Abs K H₀ S M S σ H ρ) (hu : isD u) (hb : S b = some u) (a : Abs K (PL.lk b u o H₀) (PL.lk b u o S) M S' σ' H' ρ') : Abs K H₀ S M (PL.ulk b u S') σ' (PL.ulk b u H') ρ' := by
  have fS : S' b = some (.frz o u) := a.base _ _ (lk_at hb)
  have fH : H' b = some (.frz o u) := a.sub _ _ fS
  have hS : ∀ x, S' b = some x → x = .frz o u := fun x e => by rw [fS] at e; cases e; rfl
  have hH : H b = some u := a0.sub _ _ hb
  refine ⟨a.len, fun c x e => ?_, fun c x e => ?_, fun c x e => ?_, fun c x e m => ?_, fun c x e => ?_, fun i p e => ?_, fun i s p e es => ?_, a.dis⟩
  · by_cases h : c = b
    · subst h; rw [ulk_at fS] at e; cases e; exact ulk_at fH
    · rw [ulk_ne h] at e ⊢; exact a.sub _ _ e
  · by_cases h : c = b
    · subst h; rw [hb] at e; cases e; exact ulk_at fS
    · rw [ulk_ne h]; exact a.base _ _ (by rw [lk_ne h]; exact e)
  · by_cases h : c = b
    · subst h; rw [ulk_at fS] at e; cases e; exact .inl hb
    · rw [ulk_ne h] at e
      rcases a.grow _ _ e with z | z | z
      · rw [lk_ne h] at z; exact .inl z
      · exact .inr (.inl (lk_none' z))
      · exact .inr (.inr z)
  · by_cases h : c = b
    · subst h
      have z := a0.keep _ _ e m
      rw [hH] at z; cases z
      exact ulk_at fH
    · rw [ulk_ne h]; exact a.keep _ _ (by rw [lk_ne h]; exact e) m
  · by_cases h : c = b
    · subst h; exact ⟨_, ulk_at fH⟩
    · rw [ulk_ne h]; exact a.there _ _ (show PL.lk b u o H₀ c = some x by rw [lk_ne h]; exact e)
  · obtain ⟨v, h1, h2⟩ := a.sh i p e
    exact ⟨v, h1, Rep.ulk hu hS _ _ h2⟩
  · obtain ⟨c, w, h1, h2, h3, h4, h5, h6⟩ := a.own i s p e es
    have hc : c ≠ b := fun z => by subst z; rw [fS] at h4; cases h4
    exact ⟨c, w, h1, fun z => lk_none' (h2 z), h3, by rw [ulk_ne hc]; exact h4, by rw [ulk_ne hc]; exact h5, OwnO.ulk hu hS h6⟩
theorem Fr.ulk {S' H' : Hp} {σ' : St} {ρ' : Env} {p : PV} {v : V} (hu : isD u) (fS : S' b = some (.frz o u)) (f : Fr K (PL.lk b u o H₀) S' H' σ' ρ' p v) : Fr K H₀ (PL.ulk b u S') (PL.ulk b u H') σ' ρ' p v := by
  obtain ⟨c, w, h1, h2, h3, h4, h5, h6⟩ := f
  have hS : ∀ x, S' b = some x → x = .frz o u := fun x e => by rw [fS] at e; cases e; rfl
  have hc : c ≠ b := fun z => by subst z; rw [fS] at h3; cases h3
  exact ⟨c, w, h1, lk_none' h2, by rw [ulk_ne hc]; exact h3, by rw [ulk_ne hc]; exact h4, OwnO.ulk hu hS h5, h6⟩
end
/-! the keys -/
theorem rep_keys {S : Hp} : ∀ k : List Key, RepL K S (k.map keyPV) (k.map kV)
  | [] => .nil
  | .inl i :: k => .cons (.int i) (rep_keys k)
  | .inr x :: k => .cons (.str x) (rep_keys k)
theorem itr_keysK {S H : Hp} {kvs : List (Key × V)} (h : S b = some (.frz o (.dK kvs))) : ItR K S H (kvs.map fun p => keyPV p.1) (Itk b o kvs) := by
  intro i S1 H1 s1 s2
  have hH := s2 _ _ (s1 _ _ h)
  refine ⟨fun hl => ⟨hH, by simpa using hl⟩, fun p e => ?_⟩
  rw [List.getElem?_map] at e
  cases q : kvs[i]? with
  | none => rw [q] at e; cases e
  | some kv =>
    rw [q] at e
    cases e
    refine ⟨⟨hH, (List.getElem?_eq_some_iff.mp q).1⟩, fun x H2 y => ?_⟩
    obtain ⟨rfl, k, v, h1, rfl⟩ := y
    rw [q] at h1
    cases h1
    exact ⟨S1, Step.refl s2, by cases k <;> constructor⟩
theorem itr_keysT {S H : Hp} {kvs : List (List Key × V)} (h : S b = some (.frz o (.dT kvs))) : ItR K S H (kvs.map fun p => .tup (p.1.map keyPV)) (Itkt b o kvs) := by
  intro i S1 H1 s1 s2
  have hH := s2 _ _ (s1 _ _ h)
  refine ⟨fun hl => ⟨hH, by simpa using hl⟩, fun p e => ?_⟩
  rw [List.getElem?_map] at e
  cases q : kvs[i]? with
  | none => rw [q] at e; cases e
  | some kv =>
    rw [q] at e
    cases e
    refine ⟨⟨hH, (List.getElem?_eq_some_iff.mp q).1⟩, fun x H2 y => ?_⟩
    obtain ⟨rfl, k, v, c, h1, rfl, hc⟩ := y
    rw [q] at h1
    cases h1
    cases z : S1 c with
    | some w =>
      have e2 := s2 _ _ z
      rw [hc] at e2
      cases e2
      exact ⟨S1, Step.refl s2, .tup z (rep_keys k)⟩
    | none =>
      refine ⟨upd S1 c (.tup (k.map kV)), ⟨same_upd z, Same.refl _, fun d w e2 => ?_, fun d w e2 => ?_⟩, .tup upd_same (rep_keys k)⟩
      · by_cases hd : d = c
        · subst hd; rw [upd_same] at e2; cases e2; exact hc
        · rw [upd_ne hd] at e2; exact s2 _ _ e2
      · by_cases hd : d = c
        · subst hd; rw [upd_same] at e2; cases e2; exact .inr (.inr ⟨_, rfl⟩)
        · rw [upd_ne hd] at e2; exact .inl e2
end
def dLcD (own : List Nat) (i : Nat) (tgt : DenG) (test : DenB) (elt : Den) : Den := fun ρ => (dVar i ρ).bind fun p ρ1 => match p with
  | .dic _ ks _ => (match lcLoop own tgt test elt ks (lockE own ρ1) with
    | some (ys, ρ2) => if ys.length ≤ 1000000 then .ok (.lst ys) (backE own ρ1 ρ2) else .bad
    | none => .bad)
  | _ => .bad
def tLockR (t : TE) : TE := fun σ H Q => tLockE t σ H Q ∨ t σ H Q
section
variable {X : Cx} {W : WX} {fr : Bool} {k : Nat} {pos p p2 : Pos} {e a : Expr} {da db : Den} {x : Str}
theorem pe_lockR {t : TE} (h : PE X e t) : PE X e (tLockR t) := ⟨fun pins s σ H Q I q => by
  rcases q with q | q
  · exact (pe_lock h).run pins s σ H Q I q
  · exact h.run pins s σ H Q I q⟩
theorem fo_lcD {K : PySem.W.Frag} {mg : Str → Option Value} {i : Nat} {g : TG} {dg : DenG} {tt : TT} {dt : DenB} {te : TE} {de : Den} {own : List Nat} (hg : GOk K g dg) (hgw : TgW own g) (hgm : GMono g) (ht : TOk K mg (fun _ _ _ _ => False) tt dt) (he : EOk K mg (fun _ _ _ _ => False) te de) :
    FOk K mg W (tLockR (tLc (iKeys (tVar i)) g tt te own)) (dLcD own i dg dt de) := fun H₀ S₀ M S σ H ρ Q ab hp => by
  have key : tVar i σ H fun v H1 => ∃ p ρ1 S1, Abs K H₀ S₀ M S1 σ H1 ρ1 ∧ Rep K S1 p v ∧ Post K mg W (rF K) H₀ S₀ M σ (match p with
    | .dic _ ks _ => (match lcLoop own dg dt de ks (lockE own ρ1) with
      | some (ys, ρ2) => if ys.length ≤ 1000000 then .ok (.lst ys) (backE own ρ1 ρ2) else .bad
      | none => .bad)
    | _ => .bad) Q := eo_var.bind (mg := mg) (Rl' := rF K) ab hp fun p ρ1 v S1 H1 _ a1 _ r1 hp => ⟨p, ρ1, S1, a1, r1, hp⟩
  obtain ⟨v, hv, q, ρ1, S1, a1, r1, hp⟩ := key
  have lock : ∀ {u : HO} {b : Addr} {ks : List PV} (hu : isD u) (e : S1 b = some u) (od : Obj), Post K mg W (rF K) H₀ S₀ M σ (match lcLoop own dg dt de ks (lockE own ρ1) with
      | some (ys, ρ2) => if ys.length ≤ 1000000 then .ok (.lst ys) (backE own ρ1 ρ2) else .bad
      | none => .bad) Q → Post K mg W (rF K) (lk b u od H₀) (lk b u od S1) M σ (match lcLoop own dg dt de ks (lockE own ρ1) with
      | some (ys, ρ2) => if ys.length ≤ 1000000 then .ok (.lst ys) (backE own ρ1 ρ2) else .bad
      | none => .bad) (fun v H' => H' b = some (.frz od u) ∧ Q v (upd H' b u)) := by
    intro u b ks hu e od hp
    cases eL : lcLoop own dg dt de ks (lockE own ρ1) with
    | none => simp only [eL] at hp; exact hp.elim
    | some yr =>
      obtain ⟨ys, ρ2⟩ := yr
      simp only [eL] at hp ⊢
      by_cases hl : ys.length ≤ 1000000
      · rw [if_pos hl] at hp ⊢
        intro v S' H' a' f
        have fS := a'.base _ _ (lk_at e)
        have fH := a'.sub _ _ fS
        refine ⟨fH, ?_⟩
        rw [← ulk_upd fH]
        exact hp v _ _ (a1.unbase (Abs.ulk a1.rebase hu e a')) (Fr.ulk hu fS f)
      · rw [if_neg hl] at hp; exact hp.elim
  cases q with
  | dic t ks ps =>
    have r1 : Rep K S1 (.dic t ks ps) v := r1
    cases r1 with
    | @dK b kvs _ h1 h2 =>
      rcases h1 with e | ⟨o, e⟩
      · refine .inl ⟨b, .dK kvs, a1.sub _ _ e, trivial, fun od => ?_⟩
        rw [← lk_upd (o := od) (a1.sub _ _ e)]
        exact ⟨.ref b, hv, b, od, rfl, .inl ⟨kvs, lk_at (a1.sub _ _ e), lc_inner hg hgw hgm ht he (Abs.lk (u := .dK kvs) (o := od) a1.rebase trivial e) (itr_keysK (lk_at e)) (lock (u := .dK kvs) trivial e od hp)⟩⟩
      · exact .inr ⟨.ref b, hv, b, o, rfl, .inl ⟨kvs, a1.sub _ _ e, lc_inner hg hgw hgm ht he a1 (itr_keysK e) hp⟩⟩
    | @dT b kvs _ h1 h2 =>
      rcases h1 with e | ⟨o, e⟩
      · refine .inl ⟨b, .dT kvs, a1.sub _ _ e, trivial, fun od => ?_⟩
        rw [← lk_upd (o := od) (a1.sub _ _ e)]
        exact ⟨.ref b, hv, b, od, rfl, .inr ⟨kvs, lk_at (a1.sub _ _ e), lc_inner hg hgw hgm ht he (Abs.lk (u := .dT kvs) (o := od) a1.rebase trivial e) (itr_keysT (lk_at e)) (lock (u := .dT kvs) trivial e od hp)⟩⟩
      · exact .inr ⟨.ref b, hv, b, o, rfl, .inr ⟨kvs, a1.sub _ _ e, lc_inner hg hgw hgm ht he a1 (itr_keysT e) hp⟩⟩
  | _ => exact hp.elim
theorem df_lcD {elt tg : Expr} {ifs : List Expr} {scope : Scope} {g : TG} {dg : DenG} {dt : DenB} {de : Den} (i : Nat) (own : List (Str × Nat)) (c : Ctx X W k) (hv : PE X (.Name x p) (tVar i)) (hl : LG X.K (own.map (·.2)) g dg)
    (hg : ∀ (s : Shared) (H : Hp) (C : Addr) (cl : List (Str × Addr)) (fp : List Addr), DG (X.blk s H scope (PySem.compEnvC scope cl C X.env) fp) tg g dg) (ht : ∀ (s : Shared) (H : Hp) (C : Addr) (cl : List (Str × Addr)) (fp : List Addr), DTs (X.blk s H scope (PySem.compEnvC scope cl C X.env) fp) (fun _ _ _ _ => False) ifs dt)
    (he : ∀ (s : Shared) (H : Hp) (C : Addr) (cl : List (Str × Addr)) (fp : List Addr), DE (X.blk s H scope (PySem.compEnvC scope cl C X.env) fp) (fun _ _ _ _ => False) elt de) (ok : BlkOk X.N X.env.scope scope own := by exact blkOk_by (by decide +kernel)) (hs : ∀ z, foldedSetIterable (.Name x p) X.env z = pure z := by intro _; rfl) :
    DF X W (.ListComp elt [⟨tg, .Name x p, ifs, 0⟩] scope pos) (dLcD (own.map (·.2)) i dg dt de) :=
  DF.of (pe_lockR (pe_lc c.calm c.nd (pi_keys hv) ok (fun s H C cl fp => (hg s H C cl fp).pg) ht he hs)) (fo_lcD hl.ok hl.w hl.mono canon_ok canon_ok)
@[simp] theorem ap_dLcD {own : List Nat} {i : Nat} {dg : DenG} {dt : DenB} {ρ : Env} : dLcD own i dg dt da ρ = (dVar i ρ).bind fun p ρ1 => match p with
  | .dic _ ks _ => (match lcLoop own dg dt da ks (lockE own ρ1) with
    | some (ys, ρ2) => if ys.length ≤ 1000000 then .ok (.lst ys) (backE own ρ1 ρ2) else .bad
    | none => .bad)
  | _ => .bad := id rfl
end
/-- a measure: rows and columns of a list of lists -/
def muSheet (i : Nat) (ρ : Env) : Nat := match (ρ[i]? : Option Sl) with
  | some (.sh (.lst (.lst r :: rs))) => rs.length + r.length + 2
  | _ => 0
end PL

set_option Elab.async false
set_option linter.all false
set_option maxRecDepth 100000
set_option maxHeartbeats 4000000
namespace PL
open PySem PySem.Spec L2
set_option autoImplicit false
/-! ### comprehensions as maps -/
theorem map_lock_un {ρ : Env} {i : Nat} (h : ρ[i]? = some .un) : (ρ.map Sl.lock).set i .un = ρ.map Sl.lock := by
  have e : (ρ.map Sl.lock)[i]? = some .un := by rw [List.getElem?_map, h]; rfl
  obtain ⟨hi, e2⟩ := List.getElem?_eq_some_iff.mp e
  rw [← e2]
  exact List.set_getElem_self hi
theorem back_lock (s : Sl) : Sl.back s (Sl.lock s) = s := by cases s <;> rfl
theorem clean_un' {s : Sl} (h : s = .un) : clean s = s := by subst h; rfl
theorem back_all {ρ : Env} {i : Nat} (h : ρ[i]? = some .un) : backE [i] ρ (ρ.map Sl.lock) = ρ := by
  unfold backE
  refine List.ext_getElem (by simp) fun j h1 h2 => ?_
  rw [List.getElem_map, List.getElem_range]
  by_cases hj : j = i
  · subst hj
    obtain ⟨hi, e2⟩ := List.getElem?_eq_some_iff.mp h
    simp [h2, e2]
  · have e : [i].contains j = false := by simp [hj]
    rw [e]
    simp [h2, back_lock]
theorem lcE_un {ρ : Env} {i : Nat} (h : ρ[i]? = some .un) : lockE [i] ρ = ρ.map Sl.lock := by
  simp only [lockE]
  exact map_lock_un h
theorem lock_noOw (ρ : Env) : noOw (ρ.map Sl.lock) = true := by
  induction ρ with
  | nil => rfl
  | cons s r ih => rw [List.map_cons, noOw_cons, ih]; cases s <;> rfl
section
variable {α : Type} {i : Nat} {ρ : Env} {di : DenL} {E : Den} {T : DenB}
theorem dLc_ok (g f : α → PV) (l : List α) (hdi : di ρ = .ok (l.map g) ρ) (h0 : ρ[i]? = some .un) (hl : l.length ≤ 1000000) (hE : ∀ c ∈ l, E ((ρ.map Sl.lock).set i (.sh (g c))) = .ok (f c) ((ρ.map Sl.lock).set i (.sh (g c)))) :
    dLc [i] di (gName i) bYes E ρ = .ok (.lst (l.map f)) ρ := by
  have h1 : (ρ.map Sl.lock)[i]? = some .un := by rw [List.getElem?_map, h0]; rfl
  rw [ap_dLc, hdi]
  show (match lcLoop [i] (gName i) bYes E (l.map g) (lockE [i] ρ) with
    | some (ys, ρ2) => if ys.length ≤ 1000000 then Rs.ok (PV.lst ys) (backE [i] ρ ρ2) else .bad
    | none => .bad) = _
  rw [lcE_un h0, lc_pure g f l h1 (lock_noOw ρ) hE]
  simp only [List.length_map, hl, if_true, back_all h0]
theorem dLc_okR {n : Nat} (f : Nat → PV) (hdi : di ρ = .ok (rangeP 0 n) ρ) (h0 : ρ[i]? = some .un) (hl : n ≤ 1000000) (hE : ∀ c, c < n → E ((ρ.map Sl.lock).set i (.sh (.int (c : Nat)))) = .ok (f c) ((ρ.map Sl.lock).set i (.sh (.int (c : Nat))))) :
    dLc [i] di (gName i) bYes E ρ = .ok (.lst ((List.range n).map f)) ρ := by
  have e : rangeP 0 n = (List.range n).map fun i : Nat => PV.int (i : Int) := by simp [rangeP_map]
  rw [e] at hdi
  exact dLc_ok (fun c : Nat => PV.int (c : Int)) f _ hdi h0 (by simpa using hl) fun c hc => hE c (List.mem_range.mp hc)
theorem dLc_okF (g f : α → PV) (t : α → Bool) (l : List α) (hdi : di ρ = .ok (l.map g) ρ) (h0 : ρ[i]? = some .un) (hl : l.length ≤ 1000000) (hT : ∀ c ∈ l, T ((ρ.map Sl.lock).set i (.sh (g c))) = .ok (t c) ((ρ.map Sl.lock).set i (.sh (g c)))) (hE : ∀ c ∈ l, t c = true → E ((ρ.map Sl.lock).set i (.sh (g c))) = .ok (f c) ((ρ.map Sl.lock).set i (.sh (g c)))) :
    dLc [i] di (gName i) T E ρ = .ok (.lst ((l.filter t).map f)) ρ := by
  have h1 : (ρ.map Sl.lock)[i]? = some .un := by rw [List.getElem?_map, h0]; rfl
  have h2 := List.length_filter_le t l
  rw [ap_dLc, hdi]
  show (match lcLoop [i] (gName i) T E (l.map g) (lockE [i] ρ) with
    | some (ys, ρ2) => if ys.length ≤ 1000000 then Rs.ok (PV.lst ys) (backE [i] ρ ρ2) else .bad
    | none => .bad) = _
  rw [lcE_un h0, lc_pureF g f t l h1 (lock_noOw ρ) hT hE]
  simp only [List.length_map, show (l.filter t).length ≤ 1000000 by omega, if_true, back_all h0]
end
theorem atI_map {α : Type} {f : Nat → α} {n i : Nat} (h : i < n) : L2.atI ((List.range n).map f) (i : Int) = some (f i) := by
  rw [atI_nat (by simpa using h)]
  simp
theorem back_all2 {ρ : Env} {i : Nat} {s : Sl} (h : ρ[i]? = some s) (hc : clean s = s) : backE [i] ρ ((ρ.map Sl.lock).set i .un) = ρ := by
  unfold backE
  refine List.ext_getElem (by simp) fun j h1 h2 => ?_
  rw [List.getElem_map, List.getElem_range]
  by_cases hj : j = i
  · subst hj
    obtain ⟨hi, e2⟩ := List.getElem?_eq_some_iff.mp h
    simp [h2, e2, hc]
  · have e : [i].contains j = false := by simp [hj]
    rw [e]
    simp [h2, back_lock, Ne.symm hj]
theorem isOw_lock (s : Sl) : (Sl.lock s).isOw = false := by cases s <;> rfl
theorem noOw_un {ρ : Env} (i : Nat) (h : noOw ρ = true) : noOw (ρ.set i .un) = true := by
  induction ρ generalizing i with
  | nil => simpa using h
  | cons s r ih =>
    rw [noOw_cons, Bool.and_eq_true] at h
    cases i with
    | zero => simp [h.2]
    | succ i => rw [List.set_cons_succ, noOw_cons, h.1, ih i h.2]; rfl
section
variable {α : Type} {i : Nat} {ρ : Env} {di : DenL} {E : Den} {T : DenB}
/-- the name has had a value before -/
theorem dLc_ok2 (g f : α → PV) (l : List α) {s : Sl} (hdi : di ρ = .ok (l.map g) ρ) (h0 : ρ[i]? = some s) (hc : clean s = s) (hl : l.length ≤ 1000000) (hE : ∀ c ∈ l, E ((ρ.map Sl.lock).set i (.sh (g c))) = .ok (f c) ((ρ.map Sl.lock).set i (.sh (g c)))) :
    dLc [i] di (gName i) bYes E ρ = .ok (.lst (l.map f)) ρ := by
  have hi : i < ρ.length := (List.getElem?_eq_some_iff.mp h0).1
  have h1 : ((ρ.map Sl.lock).set i .un)[i]? = some .un := List.getElem?_set_self (by simpa using hi)
  rw [ap_dLc, hdi]
  show (match lcLoop [i] (gName i) bYes E (l.map g) (lockE [i] ρ) with
    | some (ys, ρ2) => if ys.length ≤ 1000000 then Rs.ok (PV.lst ys) (backE [i] ρ ρ2) else .bad
    | none => .bad) = _
  rw [show lockE [i] ρ = (ρ.map Sl.lock).set i .un from rfl, lc_pure g f l h1 (noOw_un i (lock_noOw ρ)) (fun c hc => by rw [List.set_set]; exact hE c hc)]
  simp only [List.length_map, hl, if_true, back_all2 h0 hc]
end
end PL

set_option Elab.async false
set_option linter.all false
set_option maxRecDepth 100000
set_option maxHeartbeats 4000000
namespace PL
open PySem PySem.Spec L2
open PyProof.Rows hiding St
open PySem.W (alike alikeAll dataLt AllAlike Sortable dataLe EachIs minD maxD AlikeAll)
set_option autoImplicit false

/-! ### the order of data at any depth -/
def isNonD : PyData → Bool
  | .none => true
  | _ => false
def ordOk (p q : PV) : Bool := SeqAt.shaped p.toD && SeqAt.shaped q.toD && alike p.toD q.toD && !isNonD p.toD
def pvLt (p q : PV) : Bool := dataLt p.toD q.toD
def gLtD (p q : PV) : Option PV := if ordOk p q then some (.bl (pvLt p q)) else none
def gGtD (p q : PV) : Option PV := if ordOk p q then some (.bl (pvLt q p)) else none
theorem shaped_depth {d : PyData} (h : SeqAt.shaped d = true) : d.depth ≤ 64 := by
  have h2 := (Bool.and_eq_true _ _).mp h
  have := of_decide_eq_true h2.2
  omega
section
variable {X : Cx} {W : WX} {k : Nat} {K : PySem.W.Frag}
def rLtD (K : PySem.W.Frag) : R2 := fun x y H Q => ∃ d e, Dp K H x d ∧ Dp K H y e ∧ alike d e = true ∧ d ≠ .none ∧ min d.depth e.depth ≤ 64 ∧ Q (.bl (dataLt d e)) H
def rGtD (K : PySem.W.Frag) : R2 := fun x y H Q => ∃ d e, Dp K H x d ∧ Dp K H y e ∧ alike d e = true ∧ d ≠ .none ∧ min d.depth e.depth ≤ 64 ∧ Q (.bl (dataLt e d)) H
theorem op_ltD (hu : X.A.units + 64 < cLine) : OpR X (compareOp .Lt) (rLtD X.K) := by
  intro pins s σ H x y v u Q I rx ry h
  obtain ⟨d, e, hd, he, al, hn, hm, q⟩ := h
  obtain ⟨as, r1⟩ := Dp.reads I d x v hd rx
  obtain ⟨bs, r2⟩ := Dp.reads I e y u he ry
  exact PySem.W.lt_data r1 r2 al hn (by omega) ⟨.bl _, H, I, rfl, q⟩
theorem op_gtD (hu : X.A.units + 64 < cLine) : OpR X (compareOp .Gt) (rGtD X.K) := by
  intro pins s σ H x y v u Q I rx ry h
  obtain ⟨d, e, hd, he, al, hn, hm, q⟩ := h
  obtain ⟨as, r1⟩ := Dp.reads I d x v hd rx
  obtain ⟨bs, r2⟩ := Dp.reads I e y u he ry
  exact PySem.W.gt_data r1 r2 al hn (by omega) ⟨.bl _, H, I, rfl, q⟩
theorem ordOk_split {p q : PV} (h : ordOk p q = true) : SeqAt.shaped p.toD = true ∧ SeqAt.shaped q.toD = true ∧ alike p.toD q.toD = true ∧ p.toD ≠ .none ∧ min p.toD.depth q.toD.depth ≤ 64 := by
  unfold ordOk at h
  simp only [Bool.and_eq_true] at h
  obtain ⟨⟨⟨h1, h2⟩, h3⟩, h4⟩ := h
  refine ⟨h1, h2, h3, fun e => (by rw [e] at h4; cases h4), ?_⟩
  have := shaped_depth h1
  omega
theorem v2_ltD : V2 K (rLtD K) gLtD := by
  intro S H x y p q z Q s rx ry e k
  unfold gLtD at e
  split at e
  · rename_i hz
    cases e
    obtain ⟨h1, h2, h3, h4, h5⟩ := ordOk_split hz
    exact ⟨_, _, rx.dp s _ _ (SeqAt.canLay_of_shaped h1), ry.dp s _ _ (SeqAt.canLay_of_shaped h2), h3, h4, h5, k _ S H (Step.refl s) (.bl _)⟩
  · cases e
theorem v2_gtD : V2 K (rGtD K) gGtD := by
  intro S H x y p q z Q s rx ry e k
  unfold gGtD at e
  split at e
  · rename_i hz
    cases e
    obtain ⟨h1, h2, h3, h4, h5⟩ := ordOk_split hz
    exact ⟨_, _, rx.dp s _ _ (SeqAt.canLay_of_shaped h1), ry.dp s _ _ (SeqAt.canLay_of_shaped h2), h3, h4, h5, k _ S H (Step.refl s) (.bl _)⟩
  · cases e
theorem cr_ltD (c : Ctx X W k) : CmpR X .Lt (rLtD X.K) gLtD := ⟨op_ltD c.hu, v2_ltD, by
  intro p q z e
  unfold gLtD at e
  split at e
  · cases e; rfl
  · cases e⟩
theorem cr_gtD (c : Ctx X W k) : CmpR X .Gt (rGtD X.K) gGtD := ⟨op_gtD c.hu, v2_gtD, by
  intro p q z e
  unfold gGtD at e
  split at e
  · cases e; rfl
  · cases e⟩

/-! ### sorted(a list of alike data) -/
def pvLe (p q : PV) : Bool := dataLe false PV.toD p q
def isTup1 : PyData → Bool
  | .tuple (_ :: _) => true
  | _ => false
def isOth : PyData → Bool
  | .tuple _ => false
  | .none => false
  | _ => true
def sortOk (ps : List PV) : Bool := ps.all (fun p => SeqAt.shaped p.toD && decide (p.toD.depth ≤ 32)) && ps.all (fun p => ps.all fun q => alike p.toD q.toD) && (ps.all (fun p => isTup1 p.toD) || ps.all fun p => isOth p.toD) && decide (ps.length ≤ sizeLine)
def gSortD : List PV → Option PV
  | [.lst ps] => if sortOk ps then some (.lst (ps.mergeSort pvLe)) else none
  | _ => none
theorem sortOk_split {ps : List PV} (h : sortOk ps = true) : (∀ p ∈ ps, SeqAt.shaped p.toD = true ∧ p.toD.depth ≤ 32) ∧ AllAlike (ps.map PV.toD) ∧ Sortable (ps.map PV.toD) ∧ ps.length ≤ sizeLine := by
  unfold sortOk at h
  simp only [Bool.and_eq_true, Bool.or_eq_true, List.all_eq_true, decide_eq_true_eq] at h
  obtain ⟨⟨⟨h1, h2⟩, h3⟩, h4⟩ := h
  refine ⟨h1, ?_, ?_, h4⟩
  · intro d hd d' hd'
    obtain ⟨p, hp, rfl⟩ := List.mem_map.mp hd
    obtain ⟨q, hq, rfl⟩ := List.mem_map.mp hd'
    exact h2 p hp q hq
  · rcases h3 with h3 | h3
    · refine .inl fun d hd => ?_
      obtain ⟨p, hp, rfl⟩ := List.mem_map.mp hd
      have := h3 p hp
      unfold isTup1 at this
      split at this
      · rename_i x xs e; exact ⟨_, _, e⟩
      · cases this
    · refine .inr fun d hd => ?_
      obtain ⟨p, hp, rfl⟩ := List.mem_map.mp hd
      have := h3 p hp
      unfold isOth at this
      constructor
      · intro e; rw [e] at this; cases this
      · intro xs e; rw [e] at this; cases this
abbrev ordZ (z w : V × PV) : Bool := dataLe false (fun z : V × PV => z.2.toD) z w
def rSortD (K : PySem.W.Frag) : List V → Hp → VK → Prop := fun xs H Q => ∃ (a : Addr) (zs : List (V × PV)), xs = [.ref a] ∧ SqL K H a (zs.map (·.1)) ∧ (∀ z ∈ zs, Dp K H z.1 z.2.toD) ∧ AllAlike (zs.map fun z => z.2.toD) ∧ Sortable (zs.map fun z => z.2.toD) ∧ (∀ z ∈ zs, z.2.toD.depth ≤ 32) ∧ zs.length ≤ sizeLine ∧
  ∀ b, H b = none → Q (.ref b) (upd H b (.lst ((zs.mergeSort ordZ).map (·.1))))
theorem each_of_vals : ∀ {zs : List (V × PV)} {us : List Value}, Vals (zs.map (·.1)) us → EachIs (fun u z => RelV z.1 u) us zs
  | [], _, h => by cases h; exact .nil
  | z :: zs, _, h => by
    cases h with
    | cons h1 h2 => exact .cons h1 (each_of_vals h2)
theorem vals_of_each : ∀ {zs : List (V × PV)} {us : List Value}, EachIs (fun u z => RelV z.1 u) us zs → Vals (zs.map (·.1)) us
  | [], _, h => by cases h; exact .nil
  | z :: zs, _, h => by
    cases h with
    | cons h1 h2 => exact .cons h1 (vals_of_each h2)
theorem each_imp {R R' : Value → V × PV → Prop} : ∀ {us : List Value} {zs : List (V × PV)}, EachIs R us zs → (∀ u z, z ∈ zs → R u z → R' u z) → EachIs R' us zs
  | _, _, .nil, _ => .nil
  | _, _, .cons h t, k => .cons (k _ _ (by simp) h) (each_imp t fun u z m r => k u z (List.mem_cons_of_mem _ m) r)
theorem cr_sortD (hu : X.A.units + 64 < cLine) : CallR X (.builtin "sorted") (rSortD X.K) := by
  intro pins s σ H xs us Q I r h
  obtain ⟨a, zs, rfl, hs, hd, hal, hk, hdep, hlen, q⟩ := h
  obtain ⟨its, rv, hl, hz⟩ := I.list hs
  rw [Vals.ref1 r]
  have e := each_of_vals rv
  refine PySem.W.sorted_data (R := fun u z => RelV z.1 u) (bs := zs) (enc := fun z : V × PV => z.2.toD) hl.isList e (each_imp e fun u z m r => Dp.reads I _ _ _ (hd z m) r) hal hk hlen (fun b hb => by have := hdep b hb; omega) fun out ho h1 => ?_
  obtain ⟨ep, he'⟩ := PyProof.Rows.sortedAll_at s.heap its out.toArray
  have rv2 := vals_of_each h1
  have hlen2 : ((zs.mergeSort ordZ).map (·.1)).length ≤ sizeLine := by
    rw [List.length_map, List.length_mergeSort]; exact hlen
  exact ⟨.ref _, upd H (s.heap.objs.size + 1) (.lst ((zs.mergeSort ordZ).map (·.1))), I.laid (t' := s.toks) (fun _ _ => PyProof.Rows.sortedAll_old) (Nat.le_succ _) ⟨hlen2, out, ep, rv2, he'⟩, rfl, q _ (I.hok.fresh (Nat.le_succ _))⟩
theorem repL_zip {S : Hp} : ∀ {ps : List PV} {vs : List V}, RepL K S ps vs → ∃ zs : List (V × PV), vs = zs.map (·.1) ∧ ps = zs.map (·.2) ∧ ∀ z ∈ zs, Rep K S z.2 z.1
  | [], _, h => by cases h; exact ⟨[], rfl, rfl, fun z hz => nomatch hz⟩
  | p :: ps, _, h => by
    cases h with
    | cons h1 h2 =>
      obtain ⟨zs, e1, e2, e3⟩ := repL_zip h2
      refine ⟨(_, p) :: zs, by rw [e1]; rfl, by rw [e2]; rfl, fun z hz => ?_⟩
      rcases List.mem_cons.mp hz with e | e
      · subst e; exact h1
      · exact e3 z e
theorem repL_unzip {S : Hp} : ∀ {zs : List (V × PV)}, (∀ z ∈ zs, Rep K S z.2 z.1) → RepL K S (zs.map (·.2)) (zs.map (·.1))
  | [], _ => .nil
  | z :: zs, h => .cons (h z (by simp)) (repL_unzip fun w hw => h w (List.mem_cons_of_mem _ hw))
theorem vn_sortD : VNF K (rSortD K) gSortD := by
  intro S H xs ps z Q s rx e k
  unfold gSortD at e
  split at e
  · rename_i ps
    split at e
    · rename_i hz
      cases e
      obtain ⟨h1, h2, h3, h4⟩ := sortOk_split hz
      cases rx with
      | cons r1 r2 =>
        cases r2
        cases r1 with
        | lst g1 g2 =>
          obtain ⟨zs, e1, e2, e3⟩ := repL_zip g2
          subst e2 e1
          simp only [List.map_map] at h2 h3
          refine ⟨_, zs, rfl, .inl (.inl (s _ _ g1)), fun z hz => (e3 z hz).dp s _ _ (SeqAt.canLay_of_shaped (h1 z.2 (List.mem_map.mpr ⟨z, hz, rfl⟩)).1), h2, h3, fun z hz => (h1 z.2 (List.mem_map.mpr ⟨z, hz, rfl⟩)).2, by simpa using h4, fun b n => ?_⟩
          have em : (zs.map (·.2)).mergeSort pvLe = (zs.mergeSort ordZ).map (·.2) := (List.map_mergeSort (r := ordZ) (s := pvLe) (f := fun z : V × PV => z.2) (l := zs) fun a _ b _ => rfl).symm
          refine k b _ n ?_
          rw [em]
          exact repL_unzip fun z hz => e3 z ((List.mergeSort_perm zs ordZ).mem_iff.mp hz)
    · cases e
  · cases e

/-! ### min and max of a list of alike data -/
mutual
def pure? : PV → Bool
  | .non => true
  | .bl _ => true
  | .int _ => true
  | .str _ => true
  | .lst ps => pures? ps
  | .tup ps => pures? ps
  | _ => false
def pures? : List PV → Bool
  | [] => true
  | p :: ps => pure? p && pures? ps
end
mutual
theorem toD_inj : ∀ (p q : PV), pure? p = true → pure? q = true → p.toD = q.toD → p = q
  | .non, q, _, hq, e => by cases q <;> first | rfl | (simp only [PV.toD] at e; cases e) | (simp [pure?] at hq)
  | .bl b, q, _, hq, e => by cases q <;> first | (simp only [PV.toD] at e; cases e; done) | (simp only [PV.toD, PyData.bool.injEq] at e; rw [e]; done) | (simp [pure?] at hq; done)
  | .int b, q, _, hq, e => by cases q <;> first | (simp only [PV.toD] at e; cases e; done) | (simp only [PV.toD, PyData.int.injEq] at e; rw [e]; done) | (simp [pure?] at hq; done)
  | .str b, q, _, hq, e => by cases q <;> first | (simp only [PV.toD] at e; cases e; done) | (simp only [PV.toD, PyData.str.injEq] at e; rw [e]; done) | (simp [pure?] at hq; done)
  | .lst ps, q, hp, hq, e => by
    cases q with
    | lst qs =>
      simp only [PV.toD, PyData.list.injEq] at e
      rw [toDs_inj ps qs (by simpa [pure?] using hp) (by simpa [pure?] using hq) e]
    | _ => first | (simp only [PV.toD] at e; cases e; done) | (simp [pure?] at hq; done)
  | .tup ps, q, hp, hq, e => by
    cases q with
    | tup qs =>
      simp only [PV.toD, PyData.tuple.injEq] at e
      rw [toDs_inj ps qs (by simpa [pure?] using hp) (by simpa [pure?] using hq) e]
    | _ => first | (simp only [PV.toD] at e; cases e; done) | (simp [pure?] at hq; done)
  | .ktup _, _, hp, _, _ => by simp [pure?] at hp
  | .dic _ _ _, _, hp, _, _ => by simp [pure?] at hp
  | .fn _, _, hp, _, _ => by simp [pure?] at hp
  | .obj _ _ _, _, hp, _, _ => by simp [pure?] at hp
  | .klst _, _, hp, _, _ => by simp [pure?] at hp
theorem toDs_inj : ∀ (ps qs : List PV), pures? ps = true → pures? qs = true → toDs ps = toDs qs → ps = qs
  | [], qs, _, _, e => by cases qs with
    | nil => rfl
    | cons => simp [toDs] at e
  | p :: ps, qs, hp, hq, e => by
    cases qs with
    | nil => simp [toDs] at e
    | cons q qs =>
      simp only [toDs, List.cons.injEq] at e
      simp only [pures?, Bool.and_eq_true] at hp hq
      rw [toD_inj p q hp.1 hq.1 e.1, toDs_inj ps qs hp.2 hq.2 e.2]
end
theorem toDs_map : ∀ ps : List PV, toDs ps = ps.map PV.toD
  | [] => rfl
  | p :: ps => by simp [toDs, toDs_map ps]
def minP (p : PV) (ps : List PV) : PV := ps.foldl (fun a q => if pvLt q a then q else a) p
def maxP (p : PV) (ps : List PV) : PV := ps.foldl (fun a q => if pvLt a q then q else a) p
theorem minP_toD : ∀ (ps : List PV) (p : PV), (minP p ps).toD = minD p.toD (ps.map PV.toD)
  | [], p => rfl
  | q :: ps, p => by
    have e : minP p (q :: ps) = minP (if pvLt q p then q else p) ps := rfl
    rw [e, minP_toD ps]
    show minD _ _ = minD (if dataLt q.toD p.toD then q.toD else p.toD) (ps.map PV.toD)
    unfold pvLt
    split <;> rfl
theorem maxP_toD : ∀ (ps : List PV) (p : PV), (maxP p ps).toD = maxD p.toD (ps.map PV.toD)
  | [], p => rfl
  | q :: ps, p => by
    have e : maxP p (q :: ps) = maxP (if pvLt p q then q else p) ps := rfl
    rw [e, maxP_toD ps]
    show maxD _ _ = maxD (if dataLt p.toD q.toD then q.toD else p.toD) (ps.map PV.toD)
    unfold pvLt
    split <;> rfl
theorem memIf {α : Type} {b : Bool} {x p q : α} {l : List α} (_ : True) (h : x ∈ (if b = true then q else p) :: l) : x ∈ p :: q :: l := by
  rcases List.mem_cons.mp h with e | e
  · cases b
    · rw [e]; exact List.mem_cons_self
    · rw [e]; exact List.mem_cons_of_mem _ List.mem_cons_self
  · exact List.mem_cons_of_mem _ (List.mem_cons_of_mem _ e)
theorem minP_mem : ∀ (ps : List PV) (p : PV), minP p ps ∈ p :: ps
  | [], p => by simp [minP]
  | q :: ps, p => by
    have e : minP p (q :: ps) = minP (if pvLt q p then q else p) ps := rfl
    rw [e]
    have := minP_mem ps (if pvLt q p then q else p)
    exact memIf trivial this
theorem maxP_mem : ∀ (ps : List PV) (p : PV), maxP p ps ∈ p :: ps
  | [], p => by simp [maxP]
  | q :: ps, p => by
    have e : maxP p (q :: ps) = maxP (if pvLt p q then q else p) ps := rfl
    rw [e]
    have := maxP_mem ps (if pvLt p q then q else p)
    exact memIf trivial this
def bestOk (ps : List PV) : Bool := ps.all (fun p => SeqAt.shaped p.toD && decide (p.toD.depth ≤ 32) && pure? p && !isNonD p.toD) && ps.all fun p => ps.all fun q => alike p.toD q.toD
def gMinD : List PV → Option PV
  | [.lst (p :: ps)] => if bestOk (p :: ps) then some (minP p ps) else none
  | _ => none
def gMaxD : List PV → Option PV
  | [.lst (p :: ps)] => if bestOk (p :: ps) then some (maxP p ps) else none
  | _ => none
theorem bestOk_split {ps : List PV} (h : bestOk ps = true) : (∀ p ∈ ps, SeqAt.shaped p.toD = true ∧ p.toD.depth ≤ 32 ∧ pure? p = true ∧ p.toD ≠ .none) ∧ ∀ p ∈ ps, ∀ q ∈ ps, alike p.toD q.toD = true := by
  unfold bestOk at h
  simp only [Bool.and_eq_true, List.all_eq_true, decide_eq_true_eq] at h
  obtain ⟨h1, h2⟩ := h
  refine ⟨fun p hp => ?_, h2⟩
  obtain ⟨⟨⟨g1, g2⟩, g3⟩, g4⟩ := h1 p hp
  exact ⟨g1, g2, g3, fun e => by rw [e] at g4; cases g4⟩
def rBest (f : PyData → List PyData → PyData) (K : PySem.W.Frag) : List V → Hp → VK → Prop := fun xs H Q => ∃ (a : Addr) (z : V × PV) (zs : List (V × PV)), xs = [.ref a] ∧ SqL K H a ((z :: zs).map (·.1)) ∧ (∀ w ∈ z :: zs, Dp K H w.1 w.2.toD) ∧ (∀ w ∈ z :: zs, ∀ w' ∈ z :: zs, alike w.2.toD w'.2.toD = true) ∧ (∀ w ∈ z :: zs, w.2.toD ≠ .none ∧ w.2.toD.depth ≤ 32) ∧
  ∀ w ∈ z :: zs, w.2.toD = f z.2.toD (zs.map fun w => w.2.toD) → Q w.1 H
theorem depths_le {n : Nat} : ∀ {ds : List PyData}, (∀ d ∈ ds, d.depth ≤ n) → PyData.depthAll ds ≤ n
  | [], _ => by simp [PyData.depthAll]
  | d :: ds, h => by
    have h1 := h d (by simp)
    have h2 := depths_le fun e he => h e (List.mem_cons_of_mem _ he)
    simp only [PyData.depthAll]
    omega
theorem dpAll_zip {H : Hp} : ∀ {zs : List (V × PV)}, (∀ z ∈ zs, Dp K H z.1 z.2.toD) → DpAll K H (zs.map (·.1)) (zs.map fun z => z.2.toD)
  | [], _ => .nil
  | z :: zs, h => .cons (h z (by simp)) (dpAll_zip fun w hw => h w (List.mem_cons_of_mem _ hw))
theorem vals_at : ∀ {zs : List (V × PV)} {us : List Value}, Vals (zs.map (·.1)) us → ∀ (i : Nat) (u : Value), us[i]? = some u → ∃ w ∈ zs, RelV w.1 u
  | [], _, h, i, u, e => by cases h; simp at e
  | z :: zs, _, h, i, u, e => by
    cases h with
    | cons h1 h2 =>
      cases i with
      | zero =>
        simp at e
        subst e
        exact ⟨z, by simp, h1⟩
      | succ i =>
        obtain ⟨w, m, r⟩ := vals_at h2 i u (by simpa using e)
        exact ⟨w, List.mem_cons_of_mem _ m, r⟩
theorem minD_alike (f : PyData → PyData → Bool) : ∀ (ds : List PyData) (d : PyData), ds.foldl (fun a y => if f y a then y else a) d ∈ d :: ds
  | [], d => by simp
  | e :: ds, d => by
    have := minD_alike f ds (if f e d then e else d)
    rw [List.foldl_cons]
    exact memIf trivial this
theorem cr_min (hc : X.calm = true) (hu : X.A.units + 64 < cLine) : CallR X (.builtin "min") (rBest minD X.K) := by
  intro pins s σ H xs us Q I r h
  obtain ⟨a, z, zs, rfl, hs, hd, hal, hn, q⟩ := h
  obtain ⟨its, rv, hl, hz⟩ := I.list hs
  rw [Vals.ref1 r]
  have ha : AlikeAll (z.2.toD :: zs.map fun w => w.2.toD) := by
    have e : (z.2.toD :: zs.map fun w => w.2.toD) = (z :: zs).map fun w => w.2.toD := rfl
    rw [e]
    refine ⟨fun x hx y hy => ?_, fun x hx => ?_⟩
    · obtain ⟨w, hw, rfl⟩ := List.mem_map.mp hx
      obtain ⟨w', hw', rfl⟩ := List.mem_map.mp hy
      exact hal w hw w' hw'
    · obtain ⟨w, hw, rfl⟩ := List.mem_map.mp hx
      exact (hn w hw).1
  have hdp : PyData.depthAll (z.2.toD :: zs.map fun w => w.2.toD) ≤ 32 := depths_le fun d hd => by
    have e : (z.2.toD :: zs.map fun w => w.2.toD) = (z :: zs).map fun w => w.2.toD := rfl
    rw [e] at hd
    obtain ⟨w, hw, rfl⟩ := List.mem_map.mp hd
    exact (hn w hw).2
  obtain ⟨as, hr⟩ := Dp.readsAll I _ _ its (dpAll_zip (zs := z :: zs) hd) rv
  refine PySem.W.min_list_data (I.ok.hd hc) hl.isList (by simpa using hr) ha (by omega) fun i v h' tk bs hv rd hk => ?_
  obtain ⟨w, hw, rw_⟩ := vals_at (zs := z :: zs) rv i v (by simpa using hv)
  obtain ⟨cs, r3⟩ := Dp.reads I _ _ _ (hd w hw) rw_
  have hm : minD z.2.toD (zs.map fun w => w.2.toD) ∈ z.2.toD :: zs.map fun w => w.2.toD := minD_alike dataLt _ _
  have e2 : w.2.toD = minD z.2.toD (zs.map fun w => w.2.toD) := PySem.W.alike_unique _ _ _ _ _ (ha.1 _ (show w.2.toD ∈ (z :: zs).map fun w => w.2.toD from List.mem_map.mpr ⟨w, hw, rfl⟩) _ hm) (PySem.W.reads_keeps hk r3) rd
  exact ⟨w.1, H, I.kept hk, rw_, q w hw e2⟩
theorem cr_max (hc : X.calm = true) (hu : X.A.units + 64 < cLine) : CallR X (.builtin "max") (rBest maxD X.K) := by
  intro pins s σ H xs us Q I r h
  obtain ⟨a, z, zs, rfl, hs, hd, hal, hn, q⟩ := h
  obtain ⟨its, rv, hl, hz⟩ := I.list hs
  rw [Vals.ref1 r]
  have ha : AlikeAll (z.2.toD :: zs.map fun w => w.2.toD) := by
    have e : (z.2.toD :: zs.map fun w => w.2.toD) = (z :: zs).map fun w => w.2.toD := rfl
    rw [e]
    refine ⟨fun x hx y hy => ?_, fun x hx => ?_⟩
    · obtain ⟨w, hw, rfl⟩ := List.mem_map.mp hx
      obtain ⟨w', hw', rfl⟩ := List.mem_map.mp hy
      exact hal w hw w' hw'
    · obtain ⟨w, hw, rfl⟩ := List.mem_map.mp hx
      exact (hn w hw).1
  have hdp : PyData.depthAll (z.2.toD :: zs.map fun w => w.2.toD) ≤ 32 := depths_le fun d hd => by
    have e : (z.2.toD :: zs.map fun w => w.2.toD) = (z :: zs).map fun w => w.2.toD := rfl
    rw [e] at hd
    obtain ⟨w, hw, rfl⟩ := List.mem_map.mp hd
    exact (hn w hw).2
  obtain ⟨as, hr⟩ := Dp.readsAll I _ _ its (dpAll_zip (zs := z :: zs) hd) rv
  refine PySem.W.max_list_data (I.ok.hd hc) hl.isList (by simpa using hr) ha (by omega) fun i v h' tk bs hv rd hk => ?_
  obtain ⟨w, hw, rw_⟩ := vals_at (zs := z :: zs) rv i v (by simpa using hv)
  obtain ⟨cs, r3⟩ := Dp.reads I _ _ _ (hd w hw) rw_
  have hm : maxD z.2.toD (zs.map fun w => w.2.toD) ∈ z.2.toD :: zs.map fun w => w.2.toD := minD_alike (fun y a => dataLt a y) _ _
  have e2 : w.2.toD = maxD z.2.toD (zs.map fun w => w.2.toD) := PySem.W.alike_unique _ _ _ _ _ (ha.1 _ (show w.2.toD ∈ (z :: zs).map fun w => w.2.toD from List.mem_map.mpr ⟨w, hw, rfl⟩) _ hm) (PySem.W.reads_keeps hk r3) rd
  exact ⟨w.1, H, I.kept hk, rw_, q w hw e2⟩
theorem zip_cons {S : Hp} {p : PV} {ps : List PV} {vs : List V} (h : RepL K S (p :: ps) vs) : ∃ (z : V × PV) (zs : List (V × PV)), vs = (z :: zs).map (·.1) ∧ z.2 = p ∧ ps = zs.map (·.2) ∧ ∀ w ∈ z :: zs, Rep K S w.2 w.1 := by
  obtain ⟨zs, e1, e2, e3⟩ := repL_zip h
  cases zs with
  | nil => cases e2
  | cons z zs =>
    simp only [List.map_cons, List.cons.injEq] at e2
    exact ⟨z, zs, e1, e2.1.symm, e2.2, e3⟩
theorem best_ok {S H : Hp} {p z : PV} {ps : List PV} {x : V} {f : PyData → List PyData → PyData} {Q : VK} (s : Same S H) (r1 : Rep K S (.lst (p :: ps)) x) (hz : bestOk (p :: ps) = true) (hm : z ∈ p :: ps) (hf : z.toD = f p.toD (ps.map PV.toD))
    (k : ∀ v S' H', Step S H S' H' → Rep K S' z v → Q v H') : rBest f K [x] H Q := by
  obtain ⟨h1, h2⟩ := bestOk_split hz
  cases r1 with
  | lst g1 g2 =>
    obtain ⟨w, ws, e1, e2, e3, e4⟩ := zip_cons g2
    subst e1 e2 e3
    have hmem : ∀ u ∈ w :: ws, u.2 ∈ w.2 :: ws.map (·.2) := fun u hu => by
      show u.2 ∈ (w :: ws).map (·.2)
      exact List.mem_map.mpr ⟨u, hu, rfl⟩
    refine ⟨_, w, ws, rfl, .inl (.inl (s _ _ g1)), fun u hu => (e4 u hu).dp s _ _ (SeqAt.canLay_of_shaped (h1 u.2 (hmem u hu)).1), fun u hu u' hu' => h2 _ (hmem u hu) _ (hmem u' hu'), fun u hu => ⟨(h1 u.2 (hmem u hu)).2.2.2, (h1 u.2 (hmem u hu)).2.1⟩, fun u hu eu => ?_⟩
    have e5 : u.2 = z := toD_inj _ _ (h1 u.2 (hmem u hu)).2.2.1 (h1 z hm).2.2.1 (by rw [eu, hf, List.map_map]; rfl)
    exact k _ S H (Step.refl s) (e5 ▸ e4 u hu)
theorem vn_minD : VN K (rBest minD K) gMinD := by
  intro S H xs ps z Q s rx e k
  unfold gMinD at e
  split at e
  · rename_i p ps
    split at e
    · rename_i hz
      cases e
      cases rx with
      | cons r1 r2 =>
        cases r2
        exact best_ok s r1 hz (minP_mem ps p) (minP_toD ps p) k
    · cases e
  · cases e
theorem vn_maxD : VN K (rBest maxD K) gMaxD := by
  intro S H xs ps z Q s rx e k
  unfold gMaxD at e
  split at e
  · rename_i p ps
    split at e
    · rename_i hz
      cases e
      cases rx with
      | cons r1 r2 =>
        cases r2
        exact best_ok s r1 hz (maxP_mem ps p) (maxP_toD ps p) k
    · cases e
  · cases e
variable {e : Expr} {es : List Expr} {dl : DenL} {p pos : Pos}
theorem df_sortD (c : Ctx X W k) (B : Bi X.mg) (ha : DA X W (e :: es) dl) (hg : Gl X "sorted" := by rfl) (he : starEach (e :: es) X.env = (false, eval e X.env) :: starEach es X.env := by rfl) (hpl : (backTo pos (starEach es X.env)).any (·.1) = false := by rfl) :
    DF X W (.Call (.Name "sorted" p) (e :: es) [] pos) (dN gSortD dl) := DF.of (pe_callB (cr_sortD c.hu) hg B.sorted (by decide +kernel) ha (by decide) (by decide) he hpl) (fo_n canon_ok vn_sortD)
theorem de_minD (c : Ctx X W k) (B : Bi X.mg) (ha : DA X W (e :: es) dl) (hg : Gl X "min" := by rfl) (he : starEach (e :: es) X.env = (false, eval e X.env) :: starEach es X.env := by rfl) (hpl : (backTo pos (starEach es X.env)).any (·.1) = false := by rfl) :
    DE X W (.Call (.Name "min" p) (e :: es) [] pos) (dN gMinD dl) := de_b (cr_min c.calm c.hu) vn_minD B.min (by decide +kernel) ha hg (by decide) (by decide) he hpl
theorem de_maxD (c : Ctx X W k) (B : Bi X.mg) (ha : DA X W (e :: es) dl) (hg : Gl X "max" := by rfl) (he : starEach (e :: es) X.env = (false, eval e X.env) :: starEach es X.env := by rfl) (hpl : (backTo pos (starEach es X.env)).any (·.1) = false := by rfl) :
    DE X W (.Call (.Name "max" p) (e :: es) [] pos) (dN gMaxD dl) := de_b (cr_max c.calm c.hu) vn_maxD B.max (by decide +kernel) ha hg (by decide) (by decide) he hpl
end
end PL

set_option Elab.async false
set_option linter.all false
set_option maxRecDepth 100000
set_option maxHeartbeats 4000000
namespace PL
open PySem PySem.Spec L2
set_option autoImplicit false
/-! ### a comprehension over a dict that its slot still owns afterwards -/
section
variable {K : PySem.W.Frag} {mg : Str → Option Value} {W : WX}
def ItR2 (K : PySem.W.Frag) (S H : Hp) (M : Addr → Prop) (ps : List PV) (J : It) : Prop :=
  ∀ (i : Nat) (S1 H1 : Hp), Same S S1 → Same S1 H1 → (∀ b o, H b = some o → ¬ M b → H1 b = some o) → (ps.length ≤ i → J.stop i H1) ∧ ∀ p, ps[i]? = some p → J.go i H1 ∧ ∀ x H2, J.yld i H1 x H2 → ∃ S2, Step S1 H1 S2 H2 ∧ Rep K S2 p x
/-- a comprehension's walk: in its block nothing is raised -/
theorem lc_inner2 {g : TG} {dg : DenG} {tt : TT} {dt : DenB} {te : TE} {de : Den} {own : List Nat} {H₀ S₀ : Hp} {M : Addr → Prop} {S1 H1 : Hp} {σ : St} {ρ1 : Env} {Q : VK} {xs : List PV} {J : It} (hg : GOk K g dg) (hgw : TgW own g) (hgm : GMono g) (ht : TOk K mg (fun _ _ _ _ => False) tt dt) (he : EOk K mg (fun _ _ _ _ => False) te de) (a1 : Abs K H₀ S₀ M S1 σ H1 ρ1) (rj : ItR2 K S1 H1 (Lent σ ρ1) xs J)
    (hp : match lcLoop own dg dt de xs (lockE own ρ1) with
      | some (ys, ρ2) => if ys.length ≤ 1000000 then (∀ v S' H', Abs K H₀ S₀ M S' σ H' (backE own ρ1 ρ2) → Fr K H₀ S' H' σ (backE own ρ1 ρ2) (.lst ys) v → (∀ c o, H1 c = some o → ¬ Lent σ ρ1 c → (∀ us, o ≠ .tup us) → S1 c = none → S' c = none ∧ H' c = some o) → Q v H') else False
      | none => False) : ∀ D, H1 D = none → ∃ W : Nat → Nat → Hp → Prop, (∃ m, W 0 m (upd H1 D (.lst []))) ∧ ∀ i m H, W i m H →
  (J.stop i H ∧ Q (.ref D) H) ∨ (J.go i H ∧ ∃ Nx : Hp → Prop, (∀ H', Nx H' → ∃ m', m' < m ∧ W (i + 1) m' H') ∧ ∀ x H', J.yld i H x H' → g x (wipe σ own) H' fun σ2 H2 => wipe σ2 own = wipe σ own ∧ tt σ2 H2 fun b H3 =>
    if b = true then te σ2 H3 fun y H4 => ∃ acc, H4 D = some (.lst acc) ∧ acc.length < sizeLine ∧ Nx (upd H4 D (.lst (acc ++ [y]))) else Nx H3) := by
  intro D hD
  cases eL : lcLoop own dg dt de xs (lockE own ρ1) with
  | none => simp only [eL] at hp
  | some yr =>
    obtain ⟨ys, ρ2⟩ := yr
    simp only [eL] at hp
    by_cases hlen : ys.length ≤ 1000000
    · rw [if_pos hlen] at hp
      have hsz : (1000000 : Nat) < sizeLine := by rw [sizeLine_eq]; decide
      have nL : ¬ Lent σ ρ1 D := fun ⟨i, s, p, h1, h2, h3⟩ => by
        obtain ⟨c, o, k1, _, _, _, k5, _⟩ := a1.own i s p h1 h2
        rw [h3] at k1
        cases k1
        rw [hD] at k5; cases k5
      have nOwn : ∀ {S' : Hp} {σ' : St} {H' : Hp} {ρ' : Env}, Abs K H1 S1 (Lent σ ρ1) S' σ' H' ρ' → ∀ (i : Nat) s p, ρ'[i]? = some s → s.own? = some p → noOw ρ' = true → σ'[i]? ≠ some (some (.ref D)) := fun {S' σ' H' ρ'} a i s p e es no z => by
        obtain ⟨c, o, k1, k2, k3, _⟩ := a.own i s p e es
        rw [z] at k1
        cases k1
        cases s with
        | io q => cases es; exact nL (k3 rfl)
        | ow q => exact noOw_get no e
        | un => cases es
        | sh q => cases es
      refine ⟨fun i m H => m = xs.length - i ∧ i ≤ xs.length ∧ ∃ S ρ acc ps zs, Abs K H1 S1 (Lent σ ρ1) S (wipe σ own) H ρ ∧ noOw ρ = true ∧ H D = some (.lst acc) ∧ S D = none ∧ RepL K S ps acc ∧ lcLoop own dg dt de (xs.drop i) ρ = some (zs, ρ2) ∧ ys = ps ++ zs,
        ⟨xs.length, by simp, Nat.zero_le _, S1, lockE own ρ1, [], [], ys, (a1.enter own).step (Step.hid a1.sub hD), noOw_lockE _ _, upd_same, Same.free a1.sub hD, .nil, by rw [List.drop_zero]; exact eL, rfl⟩, ?_⟩
      rintro i m H' ⟨rfl, hle, S', ρ', acc, ps, zs, a', no', hD', sD', rp, eL', eys⟩
      obtain ⟨js, jg⟩ := rj i S' H' a'.base a'.sub a'.keep
      by_cases hlt : i < xs.length
      · have ex : xs[i]? = some xs[i] := List.getElem?_eq_getElem hlt
        obtain ⟨j1, j2⟩ := jg _ ex
        rw [List.drop_eq_getElem_cons hlt] at eL'
        unfold lcLoop at eL'
        cases e1 : dg xs[i] ρ' with
        | none => simp only [e1] at eL'; cases eL'
        | some ρa =>
          simp only [e1] at eL'
          refine .inr ⟨j1, fun H => i + 1 ≤ xs.length ∧ ∃ S ρ acc ps zs, Abs K H1 S1 (Lent σ ρ1) S (wipe σ own) H ρ ∧ noOw ρ = true ∧ H D = some (.lst acc) ∧ S D = none ∧ RepL K S ps acc ∧ lcLoop own dg dt de (xs.drop (i + 1)) ρ = some (zs, ρ2) ∧ ys = ps ++ zs,
            fun H2 hN => ⟨xs.length - (i + 1), by omega, rfl, hN.1, hN.2⟩, fun x H2 y => ?_⟩
          obtain ⟨S2, st, rx⟩ := j2 x H2 y
          have aS := a'.step st
          have aT : Abs K H2 S2 (Lent σ ρ1) S2 (wipe σ own) H2 ρ' := aS.here no'
          have D2 : H2 D = some (.lst acc) := st.h _ _ hD'
          have sD2 : S2 D = none := by
            cases q : S2 D with
            | none => rfl
            | some o =>
              rcases st.new D o q with z | z | ⟨us, z⟩
              · rw [sD'] at z; cases z
              · rw [hD'] at z; cases z
              · subst z
                have z := (aS.sub _ _ q).symm.trans D2
                cases z
          have hg1 := hg H2 S2 (Lent σ ρ1) S2 (wipe σ own) H2 ρ' ρa xs[i] x (fun σ2 H2' => H2' = H2 ∧ Abs K H2 S2 (Lent σ ρ1) S2 σ2 H2 ρa) aT rx e1 fun σ2 a2 => ⟨rfl, a2⟩
          have hg2 := hgw x (wipe σ own) H2 _ hg1
          have body : ∀ σ2 H2', (wipe σ2 own = wipe (wipe σ own) own ∧ H2' = H2 ∧ Abs K H2 S2 (Lent σ ρ1) S2 σ2 H2 ρa) → (wipe σ2 own = wipe σ own ∧ tt σ2 H2' fun b H3 =>
              if b = true then te σ2 H3 fun y H4 => ∃ acc, H4 D = some (.lst acc) ∧ acc.length < sizeLine ∧ (fun H => i + 1 ≤ xs.length ∧ ∃ S ρ acc ps zs, Abs K H1 S1 (Lent σ ρ1) S (wipe σ own) H ρ ∧ noOw ρ = true ∧ H D = some (.lst acc) ∧ S D = none ∧ RepL K S ps acc ∧ lcLoop own dg dt de (xs.drop (i + 1)) ρ = some (zs, ρ2) ∧ ys = ps ++ zs) (upd H4 D (.lst (acc ++ [y])))
              else (fun H => i + 1 ≤ xs.length ∧ ∃ S ρ acc ps zs, Abs K H1 S1 (Lent σ ρ1) S (wipe σ own) H ρ ∧ noOw ρ = true ∧ H D = some (.lst acc) ∧ S D = none ∧ RepL K S ps acc ∧ lcLoop own dg dt de (xs.drop (i + 1)) ρ = some (zs, ρ2) ∧ ys = ps ++ zs) H3) := by
            rintro σ2 H2' ⟨hw, rfl, a2⟩
            rw [wipe_wipe] at hw
            refine ⟨hw, ?_⟩
            -- back to the wiped slots
            have bk : ∀ {S3 H3 : Hp} {ρ3 : Env}, Abs K H2' S2 (Lent σ ρ1) S3 σ2 H3 ρ3 → noOw ρ3 = true → Abs K H1 S1 (Lent σ ρ1) S3 (wipe σ own) H3 (wipeE own ρ3) := fun {S3 H3 ρ3} a3 no3 => by
              refine (aS.along a3 no3).forget ?_ fun j s e n => ?_
              · rw [wipeE_length, a3.len, ← wipe_len σ2 own, hw]
              · obtain ⟨h1, h2⟩ := wipeE_get e n
                refine ⟨h2, ?_⟩
                rw [← hw, getElem?_wipe h1]
            have kD : ∀ {S3 H3 : Hp} {ρ3 : Env}, Abs K H2' S2 (Lent σ ρ1) S3 σ2 H3 ρ3 → H3 D = some (.lst acc) ∧ S3 D = none := fun {S3 H3 ρ3} a3 => by
              refine ⟨a3.keep D _ D2 nL, ?_⟩
              cases q : S3 D with
              | none => rfl
              | some o =>
                rcases a3.grow D o q with z | z | ⟨us, z⟩
                · rw [sD2] at z; cases z
                · rw [D2] at z; cases z
                · subst z
                  have z := (a3.sub _ _ q).symm.trans (a3.keep D _ D2 nL)
                  cases z
            refine ht H2' S2 (Lent σ ρ1) S2 σ2 H2' ρa _ a2 ?_
            cases e2 : dt ρa with
            | bad => simp only [e2] at eL'; cases eL'
            | exc x ρb => simp only [e2] at eL'; cases eL'
            | ok b ρb =>
              intro b' S3 H3 a3 rb
              cases rb
              simp only [e2] at eL'
              cases b with
              | false =>
                simp only [Bool.false_eq_true, if_false]
                by_cases no3 : noOw ρb = true
                · simp only [if_pos no3] at eL'
                  obtain ⟨d1, d2⟩ := kD a3
                  exact ⟨hlt, S3, wipeE own ρb, acc, ps, zs, bk a3 no3, noOw_wipeE _ _ no3, d1, d2, rp.up (st.s.trans a3.base), eL', eys⟩
                · simp only [if_neg no3] at eL'; cases eL'
              | true =>
                simp only [if_true]
                have a3' : Abs K H2' S3 (Lent σ ρ1) S3 σ2 H3 ρb := a3.rebase
                refine he H2' S3 (Lent σ ρ1) S3 σ2 H3 ρb _ a3' ?_
                cases e3 : de ρb with
                | bad => simp only [e3] at eL'; cases eL'
                | exc x ρc => simp only [e3] at eL'; cases eL'
                | ok y ρc =>
                  intro z S4 H4 a4' rz
                  have a4 := a3.unbase a4'
                  simp only [e3] at eL'
                  by_cases no4 : noOw ρc = true
                  · simp only [if_pos no4] at eL'
                    cases e5 : lcLoop own dg dt de (xs.drop (i + 1)) (wipeE own ρc) with
                    | none => simp only [e5] at eL'; cases eL'
                    | some yr =>
                      obtain ⟨ys', ρ4⟩ := yr
                      simp only [e5] at eL'
                      cases eL'
                      obtain ⟨d1, d2⟩ := kD a4
                      have hl : acc.length < 1000000 := by
                        have z1 := rp.length
                        have z2 := congrArg List.length eys
                        rw [List.length_append, List.length_cons] at z2
                        omega
                      refine ⟨acc, d1, by omega, hlt, S4, wipeE own ρc, acc ++ [z], ps ++ [y], ys', (bk a4 no4).other hD d2 fun j s p e es => nOwn (bk a4 no4) j s p e es (noOw_wipeE _ _ no4), noOw_wipeE _ _ no4, upd_same, d2,
                        (rp.up (st.s.trans a4.base)).append (.cons rz .nil), e5, by rw [eys, List.append_assoc]; rfl⟩
                  · simp only [if_neg no4] at eL'; cases eL'
          exact hgm x (wipe σ own) H2 _ _ body hg2
      · have ei : i = xs.length := by omega
        subst ei
        rw [List.drop_length] at eL'
        unfold lcLoop at eL'
        cases eL'
        rw [List.append_nil] at eys
        subst eys
        refine .inl ⟨js (Nat.le_refl _), hp (.ref D) S' H' (a1.exit a') ⟨D, .lst acc, rfl, a1.none0 hD, sD', hD', rp, fun j s q ej es z => ?_⟩ fun c o e nl nt sn => ⟨?_, a'.keep c o e nl⟩⟩
        · have a2 := a1.exit a'
          obtain ⟨c, o, k1, k2, k3, k4, k5, k6⟩ := a2.own j s q ej es
          rcases backE_get ej (by intro w; subst w; cases es) with ⟨_, q', hq, _⟩ | ⟨h1, t, t', h2, h3, h4⟩
          · subst hq; cases es
          · have ht : ∃ p, t'.own? = some p := by
              cases t <;> cases t' <;> simp [Sl.back] at h4 <;> subst h4 <;> first | (cases es; done) | exact ⟨_, rfl⟩
            obtain ⟨p, hp'⟩ := ht
            exact nOwn a' j t' p h3 hp' no' (by rw [getElem?_wipe h1]; exact z)
        · cases q : S' c with
          | none => rfl
          | some o' =>
            rcases a'.grow c o' q with z | z | ⟨us, z⟩
            · rw [sn] at z; cases z
            · rw [e] at z; cases z
            · subst z
              have z1 := (a'.sub _ _ q).symm.trans (a'.keep c o e nl)
              cases z1
              exact (nt us rfl).elim
    · rw [if_neg hlen] at hp
      exact hp.elim
theorem itr2_keysK {S H : Hp} {M : Addr → Prop} {b : Addr} {o : Obj} {kvs : List (Key × V)} (h : H b = some (.frz o (.dK kvs))) (hm : ¬ M b) : ItR2 K S H M (kvs.map fun p => keyPV p.1) (Itk b o kvs) := by
  intro i S1 H1 s1 s2 kp
  have hH := kp _ _ h hm
  refine ⟨fun hl => ⟨hH, by simpa using hl⟩, fun p e => ?_⟩
  rw [List.getElem?_map] at e
  cases q : kvs[i]? with
  | none => rw [q] at e; cases e
  | some kv =>
    rw [q] at e
    cases e
    refine ⟨⟨hH, (List.getElem?_eq_some_iff.mp q).1⟩, fun x H2 y => ?_⟩
    obtain ⟨rfl, k, v, h1, rfl⟩ := y
    rw [q] at h1
    cases h1
    exact ⟨S1, Step.refl s2, by cases k <;> constructor⟩
theorem itr2_keysT {S H : Hp} {M : Addr → Prop} {b : Addr} {o : Obj} {kvs : List (List Key × V)} (h : H b = some (.frz o (.dT kvs))) (hm : ¬ M b) : ItR2 K S H M (kvs.map fun p => .tup (p.1.map keyPV)) (Itkt b o kvs) := by
  intro i S1 H1 s1 s2 kp
  have hH := kp _ _ h hm
  refine ⟨fun hl => ⟨hH, by simpa using hl⟩, fun p e => ?_⟩
  rw [List.getElem?_map] at e
  cases q : kvs[i]? with
  | none => rw [q] at e; cases e
  | some kv =>
    rw [q] at e
    cases e
    refine ⟨⟨hH, (List.getElem?_eq_some_iff.mp q).1⟩, fun x H2 y => ?_⟩
    obtain ⟨rfl, k, v, c, h1, rfl, hc⟩ := y
    rw [q] at h1
    cases h1
    cases z : S1 c with
    | some w =>
      have e2 := s2 _ _ z
      rw [hc] at e2
      cases e2
      exact ⟨S1, Step.refl s2, .tup z (rep_keys k)⟩
    | none =>
      refine ⟨upd S1 c (.tup (k.map kV)), ⟨same_upd z, Same.refl _, fun d w e2 => ?_, fun d w e2 => ?_⟩, .tup upd_same (rep_keys k)⟩
      · by_cases hd : d = c
        · subst hd; rw [upd_same] at e2; cases e2; exact hc
        · rw [upd_ne hd] at e2; exact s2 _ _ e2
      · by_cases hd : d = c
        · subst hd; rw [upd_same] at e2; cases e2; exact .inr (.inr ⟨_, rfl⟩)
        · rw [upd_ne hd] at e2; exact .inl e2
def dLcDk (own : List Nat) (i : Nat) (tgt : DenG) (test : DenB) (elt : Den) : Den := fun ρ => match (ρ[i]? : Option Sl) with
  | some (.ow (.dic t ks ps)) => (match lcLoop own tgt test elt ks (lockE own (ρ.set i .un)) with
    | some (ys, ρ2) => if ys.length ≤ 1000000 then .ok (.lst ys) ((backE own (ρ.set i .un) ρ2).set i (.ow (.dic t ks ps))) else .bad
    | none => .bad)
  | _ => .bad
theorem not_own_frz {S : Hp} {p : PV} {o : Obj} {u : HO} (h : OwnO K S p (.frz o u)) : False := by
  unfold OwnO at h
  split at h <;> first | exact h.elim | (rename_i e; cases e) | (rename_i e _; cases e)
section
variable {H₀ S₀ : Hp} {M : Addr → Prop} {S H S' H' : Hp} {σ : St} {ρ ρ' : Env} {i : Nat} {d : PV} {b : Addr} {u : HO} {o : Obj}
/-- the slot's object, locked and out of sight -/
theorem Abs.hide (a : Abs K H₀ S₀ M S σ H ρ) (e : ρ[i]? = some (.ow d)) (hb : σ[i]? = some (some (.ref b))) (h0 : H₀ b = none) (hS : S b = none) : Abs K H₀ S₀ M S σ (upd H b (.frz o u)) (ρ.set i .un) ∧ ¬ Lent σ (ρ.set i .un) b := by
  have ne : ∀ {j : Nat} {s : Sl} {p : PV}, (ρ.set i .un)[j]? = some s → s ≠ .un → j ≠ i ∧ ρ[j]? = some s := fun {j s p} ej hs => by
    rw [List.getElem?_set] at ej
    split at ej
    · split at ej
      · cases ej; exact (hs rfl).elim
      · cases ej
    · rename_i h; exact ⟨fun z => h z.symm, ej⟩
  have no : ¬ Lent σ (ρ.set i .un) b := fun ⟨j, s, p, h1, h2, h3⟩ => by
    obtain ⟨n1, n2⟩ := ne (p := p) h1 (by intro z; subst z; cases h2)
    exact n1 (a.dis j i s _ p _ b n2 h2 e rfl h3 hb)
  refine ⟨?_, no⟩
  refine Abs.other ⟨by rw [List.length_set]; exact a.len, a.sub, a.base, a.grow, a.keep, a.there, fun j p ej => ?_, fun j s p ej es => ?_, fun j j' s t p q c e1 e2 e3 e4 e5 e6 => ?_⟩ h0 hS fun j s p ej es z => no ⟨j, s, p, ej, es, z⟩
  · exact a.sh j p (ne (p := p) ej (by intro z; cases z)).2
  · exact a.own j s p (ne (p := p) ej (by intro z; subst z; cases es)).2 es
  · exact a.dis j j' s t p q c (ne (p := p) e1 (by intro z; subst z; cases e2)).2 e2 (ne (p := p) e3 (by intro z; subst z; cases e4)).2 e4 e5 e6
/-- and back -/
theorem Abs.show_ (a : Abs K H₀ S₀ M S' σ H' ρ') (hb : σ[i]? = some (some (.ref b))) (h0 : H₀ b = none) (hS : S' b = none) (hH : H' b = some (.frz o u)) (ho : OwnO K S' d u) : Abs K H₀ S₀ M S' σ (upd H' b u) (ρ'.set i (.ow d)) := by
  have nf : ∀ (j : Nat) (s : Sl) (p : PV), ρ'[j]? = some s → s.own? = some p → σ[j]? ≠ some (some (.ref b)) := fun j s p ej es z => by
    obtain ⟨c, w, k1, k2, k3, k4, k5, k6⟩ := a.own j s p ej es
    rw [z] at k1
    cases k1
    rw [hH] at k5
    cases k5
    exact not_own_frz k6
  have cs : ∀ {j : Nat} {s : Sl}, (ρ'.set i (.ow d))[j]? = some s → (j = i ∧ s = .ow d) ∨ (j ≠ i ∧ ρ'[j]? = some s) := fun {j s} ej => by
    rw [List.getElem?_set] at ej
    split at ej
    · split at ej
      · cases ej; rename_i h _; exact .inl ⟨h.symm, rfl⟩
      · cases ej
    · rename_i h; exact .inr ⟨fun z => h z.symm, ej⟩
  refine ⟨by rw [List.length_set]; exact a.len, fun c x e => ?_, a.base, a.grow, fun c x e m => ?_, fun c x e => ?_, fun j p ej => ?_, fun j s p ej es => ?_, fun j j' s t p q c e1 e2 e3 e4 e5 e6 => ?_⟩
  · rw [upd_ne (fun z => by rw [z, hS] at e; cases e)]; exact a.sub _ _ e
  · rw [upd_ne (fun z => by rw [z, h0] at e; cases e)]; exact a.keep _ _ e m
  · rw [upd_ne (fun z => by rw [z, h0] at e; cases e)]; exact a.there _ _ e
  · rcases cs ej with ⟨_, z⟩ | ⟨_, z⟩
    · cases z
    · exact a.sh j p z
  · rcases cs ej with ⟨rfl, rfl⟩ | ⟨_, z⟩
    · cases es
      exact ⟨b, u, hb, fun _ => h0, (fun z => by cases z), hS, upd_same, ho⟩
    · obtain ⟨c, w, k1, k2, k3, k4, k5, k6⟩ := a.own j s p z es
      refine ⟨c, w, k1, k2, k3, k4, ?_, k6⟩
      rw [upd_ne (fun y => by subst y; exact nf j s p z es k1)]
      exact k5
  · rcases cs e1 with ⟨rfl, rfl⟩ | ⟨n1, z1⟩
    · rcases cs e3 with ⟨rfl, rfl⟩ | ⟨n2, z2⟩
      · rfl
      · rw [hb] at e5; cases e5; exact (nf j' t q z2 e4 e6).elim
    · rcases cs e3 with ⟨rfl, rfl⟩ | ⟨n2, z2⟩
      · rw [hb] at e6; cases e6; exact (nf j s p z1 e2 e5).elim
      · exact a.dis j j' s t p q c z1 e2 z2 e4 e5 e6
theorem Fr.show_ {ys : List PV} {v : V} (f : Fr K H₀ S' H' σ ρ' (.lst ys) v) (hb : σ[i]? = some (some (.ref b))) (hH : H' b = some (.frz o u)) : Fr K H₀ S' (upd H' b u) σ (ρ'.set i (.ow d)) (.lst ys) v := by
  obtain ⟨c, w, h1, h2, h3, h4, h5, h6⟩ := f
  have hc : c ≠ b := fun z => by subst z; rw [hH] at h4; cases h4; exact not_own_frz h5
  refine ⟨c, w, h1, h2, h3, by rw [upd_ne hc]; exact h4, h5, fun j s q ej es z => ?_⟩
  rw [List.getElem?_set] at ej
  split at ej
  · split at ej
    · rename_i h _
      subst h
      rw [hb] at z
      cases z
      exact hc rfl
    · cases ej
  · exact h6 j s q ej es z
end
end
section
variable {X : Cx} {W : WX} {fr : Bool} {k : Nat} {pos p p2 : Pos} {e a : Expr} {da db : Den} {x : Str}
theorem fo_lcDk {K : PySem.W.Frag} {mg : Str → Option Value} {i : Nat} {g : TG} {dg : DenG} {tt : TT} {dt : DenB} {te : TE} {de : Den} {own : List Nat} (hg : GOk K g dg) (hgw : TgW own g) (hgm : GMono g) (ht : TOk K mg (fun _ _ _ _ => False) tt dt) (he : EOk K mg (fun _ _ _ _ => False) te de) :
    FOk K mg W (tLockR (tLc (iKeys (tVar i)) g tt te own)) (dLcDk own i dg dt de) := fun H₀ S₀ M S σ H ρ Q ab hp => by
  unfold dLcDk at hp
  split at hp
  · rename_i t ks ps ei
    obtain ⟨b, u, k1, k2, k3, k4, k5, k6⟩ := ab.own i _ _ ei rfl
    have h0 := k2 rfl
    have hid := fun (o : Obj) => ab.hide (o := o) (u := u) ei k1 h0 k4
    have fin : ∀ (o : Obj), match lcLoop own dg dt de ks (lockE own (ρ.set i .un)) with
      | some (ys, ρ2) => if ys.length ≤ 1000000 then (∀ v S' H', Abs K H₀ S M S' σ H' (backE own (ρ.set i .un) ρ2) → Fr K H₀ S' H' σ (backE own (ρ.set i .un) ρ2) (.lst ys) v → (∀ c w, upd H b (.frz o u) c = some w → ¬ Lent σ (ρ.set i .un) c → (∀ us, w ≠ .tup us) → S c = none → S' c = none ∧ H' c = some w) → (H' b = some (.frz o u) ∧ Q v (upd H' b u))) else False
      | none => False := fun o => by
      cases eL : lcLoop own dg dt de ks (lockE own (ρ.set i .un)) with
      | none => simp only [eL] at hp; exact hp.elim
      | some yr =>
        obtain ⟨ys, ρ2⟩ := yr
        simp only [eL] at hp ⊢
        by_cases hl : ys.length ≤ 1000000
        · rw [if_pos hl] at hp ⊢
          intro v S' H' a' f kp
          obtain ⟨z1, z2⟩ := kp b _ upd_same (hid o).2 (fun _ z => by cases z) k4
          refine ⟨z2, hp v S' _ (ab.unbase (a'.show_ k1 h0 z1 z2 (k6.up a'.base))) (f.show_ k1 z2)⟩
        · rw [if_neg hl] at hp; exact hp.elim
    refine .inl ⟨b, u, k5, ?_, fun od => ?_⟩
    · unfold OwnO at k6
      split at k6 <;> first | trivial | exact k6.elim
    · refine ⟨.ref b, k1, b, od, rfl, ?_⟩
      unfold OwnO at k6
      split at k6
      · rename_i z; cases z
      · rename_i kvs z
        cases z
        obtain ⟨rfl, _⟩ := k6
        exact .inl ⟨_, upd_same, lc_inner2 hg hgw hgm ht he (hid od).1.rebase (itr2_keysK upd_same (hid od).2) (fin od)⟩
      · rename_i kvs z
        cases z
        obtain ⟨rfl, _⟩ := k6
        exact .inr ⟨_, upd_same, lc_inner2 hg hgw hgm ht he (hid od).1.rebase (itr2_keysT upd_same (hid od).2) (fin od)⟩
      · exfalso; rename_i c1 ks1 ps1 C1 dx1 fs1 z; exact nomatch z
      · exact k6.elim
  · exact hp.elim
theorem df_lcDk {elt tg : Expr} {ifs : List Expr} {scope : Scope} {g : TG} {dg : DenG} {dt : DenB} {de : Den} (i : Nat) (own : List (Str × Nat)) (c : Ctx X W k) (hv : PE X (.Name x p) (tVar i)) (hl : LG X.K (own.map (·.2)) g dg)
    (hg : ∀ (s : Shared) (H : Hp) (C : Addr) (cl : List (Str × Addr)) (fp : List Addr), DG (X.blk s H scope (PySem.compEnvC scope cl C X.env) fp) tg g dg) (ht : ∀ (s : Shared) (H : Hp) (C : Addr) (cl : List (Str × Addr)) (fp : List Addr), DTs (X.blk s H scope (PySem.compEnvC scope cl C X.env) fp) (fun _ _ _ _ => False) ifs dt)
    (he : ∀ (s : Shared) (H : Hp) (C : Addr) (cl : List (Str × Addr)) (fp : List Addr), DE (X.blk s H scope (PySem.compEnvC scope cl C X.env) fp) (fun _ _ _ _ => False) elt de) (ok : BlkOk X.N X.env.scope scope own := by exact blkOk_by (by decide +kernel)) (hs : ∀ z, foldedSetIterable (.Name x p) X.env z = pure z := by intro _; rfl) :
    DF X W (.ListComp elt [⟨tg, .Name x p, ifs, 0⟩] scope pos) (dLcDk (own.map (·.2)) i dg dt de) :=
  DF.of (pe_lockR (pe_lc c.calm c.nd (pi_keys hv) ok (fun s H C cl fp => (hg s H C cl fp).pg) ht he hs)) (fo_lcDk hl.ok hl.w hl.mono canon_ok canon_ok)
@[simp] theorem ap_dLcDk {own : List Nat} {i : Nat} {dg : DenG} {dt : DenB} {ρ : Env} : dLcDk own i dg dt da ρ = match (ρ[i]? : Option Sl) with
  | some (.ow (.dic t ks ps)) => (match lcLoop own dg dt da ks (lockE own (ρ.set i .un)) with
    | some (ys, ρ2) => if ys.length ≤ 1000000 then .ok (.lst ys) ((backE own (ρ.set i .un) ρ2).set i (.ow (.dic t ks ps))) else .bad
    | none => .bad)
  | _ => .bad := id rfl
end
end PL

set_option Elab.async false
set_option linter.all false
set_option maxRecDepth 100000
set_option maxHeartbeats 4000000
namespace PL
open PySem PySem.Spec L2
set_option autoImplicit false
/-! ### d[a], e[b] = a pair -/
def putAt (i : Nat) (e : PV) (db : Den) : Env → Option Env := fun ρ => match ownAt ρ i with
  | none => none
  | some _ => match db ρ with
    | .ok k ρ2 => (match ownAt ρ2 i with
      | some (s, .dic t ks vs) => if (kGood t k && decide (ks.length < 100000)) = true then some (ρ2.set i (s.with (.dic t (dPutQ ks vs k e).1 (dPutQ ks vs k e).2))) else none
      | _ => none)
    | _ => none
def sPut2 (i : Nat) (da : Den) (j : Nat) (db de : Den) : DenS := fun ρ => (de ρ).bindS fun r ρ1 => match r with
  | .tup [e1, e2] => (match putAt i e1 da ρ1 with
    | some ρ2 => (match putAt j e2 db ρ2 with
      | some ρ3 => .nx ρ3
      | none => .bad)
    | none => .bad)
  | _ => .bad
section
variable {X : Cx} {W : WX} {fr : Bool} {k : Nat} {pos p p2 p3 p4 pt : Pos} {e a b : Expr} {da db de : Den} {x y : Str}
theorem put_at {K : PySem.W.Frag} {mg : Str → Option Value} {i : Nat} {ti : TE} {H₀ S₀ : Hp} {M : Addr → Prop} {S H : Hp} {σ : St} {ρ ρ' : Env} {q : PV} {v : V} {Q : St → Hp → Prop} (hi : EOk K mg W ti db) (a1 : Abs K H₀ S₀ M S σ H ρ) (ry : Rep K S q v) (hp : putAt i q db ρ = some ρ') (kk0 : ∀ S' H', Same S S' → Abs K H₀ S₀ M S' σ H' ρ' → Q σ H') : L2.gSub (tVar i) ti rSetD v σ H Q := by
  unfold putAt at hp
  cases e0 : ownAt ρ i with
  | none => rw [e0] at hp; cases hp
  | some sp =>
    obtain ⟨s0, p0⟩ := sp
    rw [e0] at hp
    obtain ⟨e1, e2⟩ := ownAt_some e0
    obtain ⟨b, o, h1, h2, h3, h4, h5, h6⟩ := a1.own i _ _ e1 e2
    refine ⟨.ref b, h1, ?_⟩
    refine hi H₀ S M S σ H ρ _ a1.rebase ?_
    cases ed : db ρ with
    | bad => rw [ed] at hp; cases hp
    | exc _ _ => rw [ed] at hp; cases hp
    | ok q2 ρ2 =>
      rw [ed] at hp
      intro x S2 H2 a2' rx
      have a2 := a1.unbase a2'
      have s2 : Same S S2 := a2'.base
      have rx : Rep K S2 q2 x := rx
      have hp : (match ownAt ρ2 i with
        | some (s, .dic t ks vs) => if (kGood t q2 && decide (ks.length < 100000)) = true then some (ρ2.set i (s.with (.dic t (dPutQ ks vs q2 q).1 (dPutQ ks vs q2 q).2))) else none
        | _ => none) = some ρ' := hp
      cases e3 : ownAt ρ2 i with
      | none => rw [e3] at hp; cases hp
      | some sp =>
        obtain ⟨s, p⟩ := sp
        rw [e3] at hp
        obtain ⟨e4, e5⟩ := ownAt_some e3
        obtain ⟨b', o', k1, k2, k3, k4, k5, k6⟩ := a2.own i _ _ e4 e5
        rw [h1] at k1
        cases k1
        cases p with
        | dic t ks vs =>
          have hp : (if (kGood t q2 && decide (ks.length < 100000)) = true then some (ρ2.set i (s.with (.dic t (dPutQ ks vs q2 q).1 (dPutQ ks vs q2 q).2))) else none) = some ρ' := hp
          split at hp
          · rename_i hz
            cases hp
            simp only [Bool.and_eq_true, decide_eq_true_eq] at hz
            obtain ⟨hg, hl⟩ := hz
            obtain ⟨hg1, hg2⟩ := (Bool.and_eq_true _ _).mp hg
            have hs : (100000 : Nat) < sizeLine := by rw [sizeLine_eq]; decide
            have keyed : ∀ kk, key? q2 = some kk → rSetD (V.ref b) x v H2 fun H3 => Q σ H3 := fun kk hq => by
              have eq := key?_some hq
              subst eq
              have ex := rx.keyV
              subst ex
              cases t with
              | true => cases kk <;> cases hg2
              | false =>
                cases o' with
                | dK kvs =>
                  have hn : kvs.length < sizeLine := by
                    have : ks = kvs.map (fun p => keyPV p.1) := k6.1
                    rw [this, List.length_map] at hl
                    omega
                  exact ⟨b, _, rfl, DPut.k k5 hn, kk0 S2 _ s2 (a2.mut e4 e5 h1 (OwnO.putK k6 (ry.up s2)))⟩
                | _ => exact k6.elim
            cases q2 with
            | tup qs =>
              cases rx with
              | tup g1 g2 =>
                rename_i c us
                have hk : ((keys? qs).map (Sum.inr : List Key → KK)).isSome = true := hg1
                cases hks : keys? qs with
                | none => rw [hks] at hk; cases hk
                | some kk2 =>
                  have eq := keys?_some hks
                  subst eq
                  have hx := a2.sub _ _ g1
                  rw [g2.keyVs] at hx
                  cases t with
                  | false => cases hg2
                  | true =>
                    cases o' with
                    | dT kvs =>
                      have hn : kvs.length < sizeLine := by
                        have : ks = kvs.map (fun p => .tup (p.1.map keyPV)) := k6.1
                        rw [this, List.length_map] at hl
                        omega
                      exact ⟨b, _, rfl, DPut.t k5 hx hn, kk0 S2 _ s2 (a2.mut e4 e5 h1 (OwnO.putT k6 (ry.up s2)))⟩
                    | _ => exact k6.elim
            | int i => exact keyed (.inl i) rfl
            | str z => exact keyed (.inr z) rfl
            | _ => cases hg1
          · cases hp
        | _ => cases hp
theorem so_put2 {K : PySem.W.Frag} {mg : Str → Option Value} {i j : Nat} {t1 t2 te : TE} (h1 : EOk K mg W t1 da) (h2 : EOk K mg W t2 db) (he : EOk K mg W te de) : SOk K mg W fr (tAsg te (L2.gTup K 2 (L2.gCons (L2.gSub (tVar i) t1 rSetD) (L2.gCons (L2.gSub (tVar j) t2 rSetD) L2.gNil)))) (sPut2 i da j db de) := fun H₀ S₀ M S σ H ρ D ab hp =>
  he.bindS ab hp fun r ρ1 y S1 H1 _ a1 _ ry hp => by
    have ry : Rep K S1 r y := ry
    cases ry with
    | @tup c vs ps g1 g2 =>
      cases g2 with
      | nil => exact hp.elim
      | @cons e1 _ _ _ r1 g2 =>
        cases g2 with
        | nil => exact hp.elim
        | @cons e2 _ _ _ r2 g2 =>
          cases g2 with
          | cons _ _ => exact hp.elim
          | nil =>
            simp only at hp
            cases q1 : putAt i e1 da ρ1 with
            | none => simp only [q1] at hp; exact hp.elim
            | some ρ2 =>
              simp only [q1] at hp
              cases q2 : putAt j e2 db ρ2 with
              | none => simp only [q2] at hp; exact hp.elim
              | some ρ3 =>
                simp only [q2] at hp
                refine ⟨_, _, rfl, .inl (.inl (a1.sub _ _ g1)), rfl, _, _, rfl, put_at h1 a1 r1 q1 fun S2 H2 s2 a2 => ⟨_, _, rfl, put_at h2 a2 (r2.up s2) q2 fun S3 H3 s3 a3 => ⟨rfl, hp S3 σ H3 a3⟩⟩⟩
    | _ => exact hp.elim
theorem ds_put2 (i j : Nat) (c : Ctx X W k) (h1 : PE X (.Name x p) (tVar i)) (h2 : PE X (.Name y p3) (tVar j)) (ha : DE X W a da) (hb : DE X W b db) (h : DE X W e de) {kk : Nat}
    (hs : swapsWithSole [.Tuple [.Subscript (.Name x p) a p2, .Subscript (.Name y p3) b p4] kk pt] e pos.line X.env = pure false := by rfl) (hw : swappedStores [.Tuple [.Subscript (.Name x p) a p2, .Subscript (.Name y p3) b p4] kk pt] e X.env = pure none := by rfl)
    (z1 : ∀ v, assign (.Subscript (.Name x p) a p2) X.env v = (do
      let ov ← holding [v] (eval (.Name x p) X.env)
      let iv ← holding [v, ov] (eval a X.env)
      standAt p2
      holding [v, ov, iv] (setItem ov iv v)
      release [v, ov, iv] []) := by intro _; rfl) (z2 : ∀ v, assign (.Subscript (.Name y p3) b p4) X.env v = (do
      let ov ← holding [v] (eval (.Name y p3) X.env)
      let iv ← holding [v, ov] (eval b X.env)
      standAt p4
      holding [v, ov, iv] (setItem ov iv v)
      release [v, ov, iv] []) := by intro _; rfl) :
    DS X W fr (.Assign [.Tuple [.Subscript (.Name x p) a p2, .Subscript (.Name y p3) b p4] kk pt] e pos) (sPut2 i da j db de) :=
  DS.of (ps_asg h (pg_tup c.calm (pgs_cons (pg_sub h1 ha (set_dict (by have := c.hu; omega)) z1) (pgs_cons (pg_sub h2 hb (set_dict (by have := c.hu; omega)) z2) pgs_nil))) hs hw) (so_put2 canon_ok canon_ok canon_ok)
end
end PL

set_option Elab.async false
set_option linter.all false
set_option maxRecDepth 100000
set_option maxHeartbeats 4000000
namespace PL
open PySem PySem.Spec L2
open PyProof.Rows hiding St
open PySem.W (alike alikeAll dataLt AllAlike Sortable dataLe EachIs)
set_option autoImplicit false
/-! ### sorted(a dict whose keys are tuples) -/
section
variable {X : Cx} {K : PySem.W.Frag}
def keyZ (H : Hp) (z : V × PV) (k : List Key) : Prop := ∃ c, z = (.ref c, .tup (k.map keyPV)) ∧ H c = some (.tup (k.map kV))
def rSortDT (K : PySem.W.Frag) : List V → Hp → VK → Prop := fun xs H Q => ∃ (a : Addr) (kvs : List (List Key × V)), xs = [.ref a] ∧ Rd H a (.dT kvs) ∧ sortOk (kvs.map fun p => .tup (p.1.map keyPV)) = true ∧
  ∀ (zs : List (V × PV)) (b : Addr), zs.map (·.2) = (kvs.map fun p => PV.tup (p.1.map keyPV)) → (∀ z ∈ zs, ∃ k, keyZ H z k) → H b = none → Q (.ref b) (upd H b (.lst ((zs.mergeSort ordZ).map (·.1))))
theorem keyZ_dp {H : Hp} {z : V × PV} {k : List Key} (h : keyZ H z k) (hs : SeqAt.shaped z.2.toD = true) : Dp K H z.1 z.2.toD := by
  obtain ⟨c, rfl, hc⟩ := h
  have h1 : Rep K (upd (fun _ => none) c (.tup (k.map kV))) (.tup (k.map keyPV)) (.ref c) := .tup upd_same (rep_keys k)
  refine h1.dp (fun d x e => ?_) _ _ (SeqAt.canLay_of_shaped hs)
  by_cases hd : d = c
  · subst hd; rw [upd_same] at e; cases e; exact hc
  · rw [upd_ne hd] at e; cases e
theorem each_keysZ {H : Hp} : ∀ {kvs : List (List Key × V)} {ks : List (List Key × Addr × Value)}, KT H kvs ks → ∃ zs : List (V × PV), zs.map (·.2) = (kvs.map fun p => PV.tup (p.1.map keyPV)) ∧ (∀ z ∈ zs, ∃ k, keyZ H z k) ∧ Vals (zs.map (·.1)) (ks.map fun x => Value.ref x.2.1)
  | [], _, h => by cases h; exact ⟨[], rfl, (fun z hz => nomatch hz), .nil⟩
  | p :: kvs, _, h => by
    cases h with
    | @cons _ q _ qs h t =>
      obtain ⟨zs, e1, e2, e3⟩ := each_keysZ t
      refine ⟨(.ref q.2.1, .tup (p.1.map keyPV)) :: zs, by rw [List.map_cons, List.map_cons, e1], fun z hz => ?_, .cons rfl e3⟩
      rcases List.mem_cons.mp hz with e | e
      · subst e; exact ⟨p.1, q.2.1, rfl, h.2.1⟩
      · exact e2 z e
theorem cr_sortDT (hc : X.calm = true) (hu : X.A.units + 64 < cLine) : CallR X (.builtin "sorted") (rSortDT X.K) := by
  intro pins s σ H xs us Q I r h
  obtain ⟨d, kvs, rfl, hd, hok, q⟩ := h
  obtain ⟨u, rfl, rx⟩ := r.one
  cases rx
  obtain ⟨z, hs, ks, pr, o, es, ep, ho, hx, hdt, he, hn⟩ := (show ObjOk X.prog X.w H s.heap d (.dT kvs) from hd.ok I.hok)
  have l1 : es.size = ks.length := size_of_entries he
  have l2 : kvs.length = ks.length := Paired.length pr
  obtain ⟨zs, z1, z2, z3⟩ := each_keysZ pr
  have zl : zs.length = ks.length := by
    have := congrArg List.length z1
    rw [List.length_map, List.length_map] at this
    omega
  obtain ⟨g1, g2, g3, g4⟩ := sortOk_split hok
  have hz2 : ∀ w ∈ zs, SeqAt.shaped w.2.toD = true ∧ w.2.toD.depth ≤ 32 := fun w hw => g1 w.2 (by rw [← z1]; exact List.mem_map.mpr ⟨w, hw, rfl⟩)
  rw [← z1, List.map_map] at g2 g3
  refine Calls.call_function_entry PyProof.Rows.kind_sorted PyProof.Rows.plain_sorted PyProof.Rows.entry_sorted (PyProof.Rows.args_sorted1 _) ?_
  unfold Builtin.«sorted»
  refine wpAny_bind (m := checkCount "sorted" 1 1 _) (wpAny_pure ?_)
  refine wpAny_bind (PySem.W.kdu_collect (A := X.A.in1) (kdl_raw hs hx hdt) (I.ok.hd hc) ho (by omega) fun h' tk acc kp it => ?_)
  have ea : acc.toList = ks.map fun x => Value.ref x.2.1 := by
    refine List.ext_getElem? fun j => ?_
    rw [List.getElem?_map]
    have sz : acc.toList.length = ks.length := by rw [Array.length_toList, it.1]; exact l1
    by_cases hj : j < ks.length
    · have e1 : acc.toList[j]? = some (acc.toList[j]'(by omega)) := List.getElem?_eq_getElem (by omega)
      obtain ⟨en, hen, hv⟩ := it.2 j _ (by rw [← Array.getElem?_toList]; exact e1)
      have qe := entry_at he j
      rw [hen, List.getElem?_eq_getElem hj] at qe
      have e2 := Option.some.inj qe
      rw [e1, hv, e2, List.getElem?_eq_getElem hj]
      all_goals rfl
    · rw [List.getElem?_eq_none (by omega), List.getElem?_eq_none (by omega)]
      all_goals rfl
  rw [ea]
  have I1 : Inv X pins σ H { s with heap := h', toks := tk } := I.kept kp
  have hL : (ks.map fun x => Value.ref x.2.1).length ≤ sizeLine := by rw [List.length_map]; omega
  refine wpAny_bind (wpAny_newList ?_ hL)
  have hoL : (h'.push (seqObj "list" (ks.map fun x => Value.ref x.2.1).toArray 0)).get? h'.objs.size = some (seqObj "list" (ks.map fun x => Value.ref x.2.1).toArray 0) := Heap.get?_push_size _ rfl
  show wpAny _ _ _ _ _ { s with heap := h'.push (seqObj "list" (ks.map fun x => Value.ref x.2.1).toArray 0), toks := tk }
  have e := each_of_vals z3
  have er : EachIs (fun v (b : V × PV) => ∃ as, Reads (PySem.W.sortingHeap (h'.push (seqObj "list" (ks.map fun x => Value.ref x.2.1).toArray 0)) h'.objs.size (ks.map fun x => Value.ref x.2.1)) v (b.2.toD) as) (ks.map fun x => Value.ref x.2.1) zs := each_imp e fun u w m r => by
    obtain ⟨k, hk⟩ := z2 w m
    obtain ⟨as, rd⟩ := Dp.reads I1 _ _ _ (keyZ_dp (K := X.K) hk (hz2 w m).1) r
    exact ⟨as, PySem.W.reads_keeps (fun b o eb => PySem.W.sortingHeap_old (Nat.ne_of_lt (Heap.lt_size eb)) (Heap.get?_push_of_some _ eb)) rd⟩
  have hk2 : ∀ b, b ∈ zs → X.A.in1.units + 1 + b.2.toD.depth < cLine := fun b hb => by
    have := (hz2 b hb).2
    show X.A.units + 1 + 1 + _ < _
    omega
  refine wpAny_bind (wpAny_holding (wpAny_call_entry PyProof.Rows.slot_list_sort ⟨_, hoL, rfl⟩ PyProof.Rows.entry_list_sort
    (PySem.W.list_sort_vals hoL (PySem.W.SortsAt.data (PySem.W.each_map (R := fun v d => ∃ as, Reads _ v d as) (fun b : V × PV => b.2.toD) er) g2 g3 (PySem.W.bound_map hk2)) hL ⟨_, rfl, ?_⟩) (PyProof.Rows.args_list_sort _)))
  have h1 := PySem.W.sortVals_data (rev := false) e er g2
  obtain ⟨e', he'⟩ := PyProof.Rows.sortedHeap_at (vs := ks.map fun x => Value.ref x.2.1) (out := (PySem.W.sortVals (PySem.W.dataKind _ (zs.map fun z => z.2.toD)) false (ks.map fun x => Value.ref x.2.1) (ks.map fun x => Value.ref x.2.1)).toArray) hoL
  have hlen : ((zs.mergeSort ordZ).map (·.1)).length ≤ sizeLine := by
    rw [List.length_map, List.length_mergeSort]; omega
  refine wpAny_pure ⟨_, rfl, .ref h'.objs.size, upd H h'.objs.size (.lst ((zs.mergeSort ordZ).map (·.1))), I1.laid (t' := tk) (fun b u eb => ?_) (Nat.le_refl _)
    (show ObjOk X.prog X.w _ _ _ (.lst _) from ⟨hlen, _, e', vals_of_each h1, he'⟩), rfl, q zs _ z1 z2 (I1.hok.fresh (Nat.le_refl _))⟩
  have hb : b < h'.objs.size := Heap.lt_size eb
  rw [PyProof.Rows.sortedHeap_old (Nat.ne_of_lt hb) (by rw [size_push']; exact Nat.lt_succ_of_lt hb)]
  exact Heap.get?_push_of_some _ eb
theorem keys_step {H : Hp} : ∀ {zs : List (V × PV)} {S : Hp}, Same S H → (∀ z ∈ zs, ∃ k, keyZ H z k) → ∃ S2, Step S H S2 H ∧ ∀ z ∈ zs, Rep K S2 z.2 z.1
  | [], S, s, _ => ⟨S, Step.refl s, fun z hz => nomatch hz⟩
  | z :: zs, S, s, h => by
    obtain ⟨k, c, rfl, hc⟩ := h z (by simp)
    have key : ∃ S1, Step S H S1 H ∧ S1 c = some (.tup (k.map kV)) := by
      cases q : S c with
      | some w =>
        have e2 := s _ _ q
        rw [hc] at e2
        cases e2
        exact ⟨S, Step.refl s, q⟩
      | none =>
        refine ⟨upd S c (.tup (k.map kV)), ⟨same_upd q, Same.refl _, fun d w e2 => ?_, fun d w e2 => ?_⟩, upd_same⟩
        · by_cases hd : d = c
          · subst hd; rw [upd_same] at e2; cases e2; exact hc
          · rw [upd_ne hd] at e2; exact s _ _ e2
        · by_cases hd : d = c
          · subst hd; rw [upd_same] at e2; cases e2; exact .inr (.inr ⟨_, rfl⟩)
          · rw [upd_ne hd] at e2; exact .inl e2
    obtain ⟨S1, st1, h1⟩ := key
    obtain ⟨S2, st2, h2⟩ := keys_step st1.sub fun w hw => h w (List.mem_cons_of_mem _ hw)
    refine ⟨S2, st1.trans st2, fun w hw => ?_⟩
    rcases List.mem_cons.mp hw with e | e
    · subst e; exact .tup (st2.s _ _ h1) (rep_keys k)
    · exact h2 w e
variable {W : WX} {k : Nat} {pos p p2 p3 : Pos} {e a b : Expr} {da db : Den} {x : Str}
def dSortDT (da : Den) : Den := fun ρ => (da ρ).bind fun p ρ1 => match p with
  | .dic true ks _ => if sortOk ks then .ok (.lst (ks.mergeSort pvLe)) ρ1 else .bad
  | _ => .bad
theorem df_sortDT (c : Ctx X W k) (B : Bi X.mg) (ha : DE X W a da) (hg : Gl X "sorted" := by rfl) (na : starEach [a] X.env = (false, eval a X.env) :: starEach [] X.env := by rfl) (hpl : (backTo pos (starEach [] X.env)).any (·.1) = false := by rfl) :
    DF X W (.Call (.Name "sorted" p) [a] [] pos) (dSortDT da) :=
  DF.of (pe_callB (cr_sortDT c.calm c.hu) hg B.sorted (by decide +kernel) (pa_cons ha pa_nil na) (by decide) (by decide) na hpl) fun H₀ S₀ M S σ H ρ Q ab hp =>
    canon_ok.bind (Rl := rV X.K) (Rl' := rF X.K) ab hp fun q ρ1 v S1 H1 _ a1 _ r1 hp => by
      have r1 : Rep X.K S1 q v := r1
      cases r1 with
      | @dT d kvs ps h1 h2 =>
        simp only at hp
        split at hp
        · rename_i hz
          refine ⟨d, kvs, rfl, h1.same a1.sub, hz, fun zs b z1 z2 n => ?_⟩
          obtain ⟨S2, st, hr⟩ := keys_step (K := X.K) a1.sub z2
          have a2 := a1.step st
          have em : (kvs.map fun p => PV.tup (p.1.map keyPV)).mergeSort pvLe = (zs.mergeSort ordZ).map (·.2) := by
            rw [← z1]
            exact (List.map_mergeSort (r := ordZ) (s := pvLe) (f := fun z : V × PV => z.2) (l := zs) fun a _ b _ => rfl).symm
          rw [em] at hp
          have rl : RepL X.K S2 ((zs.mergeSort ordZ).map (·.2)) ((zs.mergeSort ordZ).map (·.1)) := repL_unzip fun z hz => hr z ((List.mergeSort_perm zs ordZ).mem_iff.mp hz)
          exact hp _ S2 _ (a2.fresh n (p := .lst _) (o := .lst _) rl).1 (a2.fresh n (p := .lst _) (o := .lst _) rl).2
        · exact hp.elim
      | _ => exact hp.elim
@[simp] theorem ap_dSortDT {ρ : Env} : dSortDT da ρ = (da ρ).bind fun p ρ1 => match p with
  | .dic true ks _ => if sortOk ks then .ok (.lst (ks.mergeSort pvLe)) ρ1 else .bad
  | _ => .bad := id rfl
end
/-- a measure: the length of a list -/
def muLen (i : Nat) (ρ : Env) : Nat := match (ρ[i]? : Option Sl) with
  | some (.sh (.lst l)) => l.length + 2
  | some (.ow (.lst l)) => l.length + 2
  | _ => 0
end PL

set_option Elab.async false
set_option linter.all false
set_option maxRecDepth 100000
set_option maxHeartbeats 4000000
namespace PL
open PySem PySem.Spec L2
open PyProof.Rows hiding St
set_option autoImplicit false
/-! ### {k: v for ..} with tuples as keys -/
section
variable {X : Cx} {K : PySem.W.Frag} {W : WX} {k : Nat} {pos p : Pos} {da db : Den}
/-- D is set at y by the block's turn -/
def PutD (H : Hp) (D : Addr) (y z : V) (H' : Hp) : Prop := ∃ kvs q b, y = V.ref b ∧ H b = some (.tup (List.map kV q)) ∧ H D = some (.dT kvs) ∧ kvs.length < sizeLine ∧ H' = upd H D (.dT (L2.putK kvs q z))
theorem put_in_block {pins : List (Addr × Obj)} {σ : St} {H H' : Hp} {s : Shared} {E : Value → Shared → Prop} {D : Addr} {y z : V} {u r : Value} {Q : Unit → Shared → Prop} (roomy : X.A.units + 1 < cLine) (inv : Inv X pins σ H s) (g : PutD H D y z H') (ru : RelV y u) (rr : RelV z r)
    (fin : ∀ s', Inv X pins σ H' s' → Q () s') : wpAny (model X.prog X.w) X.A (dictSet D u r) Q E s := by
  obtain ⟨kvs, q, b, rfl, hb, hD, hl, rfl⟩ := g
  obtain rfl : u = Value.ref b := ru
  obtain ⟨lenOk, notSys, es, paired, table⟩ := dt_of inv.hok hD
  have esOk : es.length ≤ sizeLine := by have := Paired.length paired; omega
  have putOk : (L2.putK kvs q z).length ≤ sizeLine := by have := length_putK kvs q z; omega
  refine wpAny_dictSet_heap (hsz := esOk) (show (tupleKind (mixKind X.prog X.w)).room X.A from Nat.lt_of_succ_lt roomy) (key_of inv.hok hb) table fun heap2 table2 same => fin _ ?_
  obtain ⟨ob, ents, ep, g1, g2, g3, g4, _, g5⟩ := table2
  have keptK : KT (upd H D (.dT (L2.putK kvs q z))) (L2.putK kvs q z) (storedH es q b r) := (paired.put q hb rr).keeps fun c ys ec => by
    rw [upd_ne fun e => by rw [e, hD] at ec; cases ec]
    exact ec
  exact d_write inv (by rw [hD]; trivial) same ⟨ob, g1⟩ ⟨putOk, notSys, _, keptK, ob, ents, ep, g1, g2, g3, g4, g5⟩
def tDcT (wi : TI) (g : TG) (tt : TT) (tk tv : TE) (vs : List Nat) : TE := fun σ H Q => wi σ H fun J H1 => ∀ D, H1 D = none → ∃ Z : Nat → Nat → Hp → Prop, (∃ m, Z 0 m (upd H1 D (.dT []))) ∧ ∀ i m H, Z i m H →
  (J.stop i H ∧ Q (.ref D) H) ∨ (J.go i H ∧ ∃ Nx : Hp → Prop, (∀ H', Nx H' → ∃ m', m' < m ∧ Z (i + 1) m' H') ∧ ∀ x H', J.yld i H x H' → g x (wipe σ vs) H' fun σ2 H2 => wipe σ2 vs = wipe σ vs ∧ tt σ2 H2 fun b H3 =>
    if b = true then tk σ2 H3 fun y H4 => tv σ2 H4 fun z H5 => ∃ H6, PutD H5 D y z H6 ∧ Nx H6 else Nx H3)
variable {kx vx tg iter : Expr} {ifs : List Expr} {scope : Scope} {own : List (Str × Nat)} {wi : TI} {g : TG} {tt : TT} {tk tv : TE}
theorem pe_dcT (roomy : X.A.units + 1 < cLine) (calm : X.calm = true) (nod : X.N.Nodup) (hi : PI X tg iter wi) (ok : BlkOk X.N X.env.scope scope own)
    (hg : ∀ (s : Shared) (H : Hp) (C : Addr) (cl : List (Str × Addr)) (fp : List Addr), PG (X.blk s H scope (compEnvC scope cl C X.env) fp) tg g)
    (ht : ∀ (s : Shared) (H : Hp) (C : Addr) (cl : List (Str × Addr)) (fp : List Addr), PTs (X.blk s H scope (compEnvC scope cl C X.env) fp) ifs tt)
    (hk : ∀ (s : Shared) (H : Hp) (C : Addr) (cl : List (Str × Addr)) (fp : List Addr), PE (X.blk s H scope (compEnvC scope cl C X.env) fp) kx tk)
    (hv : ∀ (s : Shared) (H : Hp) (C : Addr) (cl : List (Str × Addr)) (fp : List Addr), PE (X.blk s H scope (compEnvC scope cl C X.env) fp) vx tv) (hs : ∀ x, foldedSetIterable iter X.env x = pure x := by intro _; rfl) :
    PE X (.DictComp kx vx [⟨tg, iter, ifs, 0⟩] scope pos) (tDcT wi g tt tk tv (own.map (·.2))) := by
  refine ⟨fun pins s σ H Q inv top => ?_⟩
  rw [arm_eval_DictComp]
  have frees : ∀ y ∈ scope.names, y.2 = .free → ∃ c, X.env.cells.lookup y.1 = some c := fun y hy e => (ok.free y hy e).elim (fun z => inv.ok.has _ (.inl z)) fun z => inv.ok.has _ (.inr z)
  refine wpAny_comprehension_free rfl hs (closure_ok frees) ok.kind (fun y hy e => by rw [ok.uniq y hy, e]) (thn (hi.run pins s σ H _ inv top) fun xv s1 hx => thn hx fun itv s2 got => ?_)
  obtain ⟨it, foot, tn, J, Hi, rfl, inv2, turnJ, at0, footOk, rest⟩ := got
  refine wpAny_newObj_type (newEnv_comp ?_)
  obtain ⟨Z, ⟨m0, z0⟩, each⟩ := rest s2.heap.objs.size (inv2.hok.fresh (Nat.le_refl _))
  have fresh2 : Hi s2.heap.objs.size = none := inv2.hok.fresh (Nat.le_refl _)
  have inv3 : Inv X pins σ (upd Hi s2.heap.objs.size (.dT [])) { s2 with heap := s2.heap.push { cls := .type "dict", data := .dict #[] } } :=
    inv2.laid (t' := s2.toks) (fun b o e => Heap.get?_push_of_some _ e) (Nat.le_refl _) (dt_empty s2.heap inv2.big)
  have foot3 : ∀ b ∈ foot, FpOk X pins (upd Hi s2.heap.objs.size (.dT [])) b ∧ b < (s2.heap.push { cls := .type "dict", data := .dict #[] }).objs.size := fun b hb => by
    obtain ⟨o, e, _⟩ := turnJ.obj _ _ at0 b hb
    have below := Heap.lt_size e
    refine ⟨⟨?_, (footOk b hb).2⟩, by rw [Heap.size_push]; exact Nat.lt_succ_of_lt below⟩
    rw [upd_ne (Nat.ne_of_lt below)]
    exact (footOk b hb).1
  have at3 : tn 0 (s2.heap.push { cls := .type "dict", data := .dict #[] }) := turnJ.keep _ _ _ at0 fun b _ o e => Heap.get?_push_of_some _ e
  generalize eD : s2.heap.objs.size = D at z0 each fresh2 inv3 foot3 ⊢
  generalize eS : ({ s2 with heap := s2.heap.push { cls := .type "dict", data := .dict #[] } } : Shared) = s3 at inv3
  have eh : s3.heap = s2.heap.push { cls := .type "dict", data := .dict #[] } := by rw [← eS]
  rw [← eh] at foot3 at3
  generalize eH : upd Hi D (.dT []) = Hd at inv3 foot3 z0
  have inv4 := block_start inv3 ok nod foot3
  let cells := cellsFrom (s3.heap.objs.size + 1) scope.names (cloFrom X.env.cells scope.names [])
  have gT := (hg s3 Hd s3.heap.objs.size cells foot).run
  have tT := (ht s3 Hd s3.heap.objs.size cells foot).run
  have kT := (hk s3 Hd s3.heap.objs.size cells foot).run
  have vT := (hv s3 Hd s3.heap.objs.size cells foot).run
  show codeAny _ _ (.compStart (.DictComp kx vx [⟨tg, iter, ifs, 0⟩] scope pos) 0 (.ref it) (.ref D) (compEnvC scope cells s3.heap.objs.size X.env)) (compPost (model X.prog X.w) X.A X.xe none (EP X pins σ Q) (.ref D) s3.heap.objs.size) { s3 with heap := pushCells (s3.heap.push { cls := .type "dict", data := .dict #[] }) scope.names }
  have locC : (compEnvC scope cells s3.heap.objs.size X.env).locals = s3.heap.objs.size := rfl
  have inv4 : Inv (X.blk s3 Hd scope (compEnvC scope cells s3.heap.objs.size X.env) foot) [] (wipe σ (own.map (·.2))) Hd { s3 with heap := pushCells (s3.heap.push { cls := .type "dict", data := .dict #[] }) scope.names } := inv4
  have at4 : tn 0 ({ s3 with heap := pushCells (s3.heap.push { cls := .type "dict", data := .dict #[] }) scope.names } : Shared).heap := turnJ.keep _ _ _ at3 fun b _ o e => pushCells_keeps _ _ _ _ (Heap.get?_push_of_some _ e)
  generalize compEnvC scope cells s3.heap.objs.size X.env = ce at inv4 gT tT kT vT locC ⊢
  generalize ({ s3 with heap := pushCells (s3.heap.push { cls := .type "dict", data := .dict #[] }) scope.names } : Shared) = s4 at inv4 at4 ⊢
  have none3 : ∀ b ∈ foot, Hd b = none := fun b hb => (foot3 b hb).1.1
  have still : ∀ {τ : St} {G : Hp} {t : Shared}, Inv (X.blk s3 Hd scope ce foot) [] τ G t → (∀ b ∈ foot, G b = none) → ∀ b ∈ foot, FpOk (X.blk s3 Hd scope ce foot) [] G b := fun {τ G t} iv nn b hb =>
    ⟨nn b hb, (iv.ok.exf b hb).1, iv.ok.exfs b hb, .inl hb, fun x c e => (iv.ok.exf b hb).2 x c e, fun q hq => absurd (show q ∈ ([] : List (Addr × Obj)) ++ [] from hq) (by simp)⟩
  have walk : codeAny (model X.prog X.w) X.A (.compLoop (.DictComp kx vx [⟨tg, iter, ifs, 0⟩] scope pos) 0 (.ref it) (.ref D) ce) (compPost (model X.prog X.w) X.A X.xe none (EP X pins σ Q) (.ref D) s3.heap.objs.size) s4 := by
    let St : Nat → Shared → Prop := fun n t => ∃ i G, Inv (X.blk s3 Hd scope ce foot) [] (wipe σ (own.map (·.2))) G t ∧ tn i t.heap ∧ (∀ b ∈ foot, G b = none) ∧ Z i n G
    refine compLoop_anyD St ?_ m0 ⟨0, Hd, inv4, at4, none3, z0⟩
    rintro n t ⟨i, G, iv, here, nn, zz⟩
    rcases each i n G zz with ⟨halt, done⟩ | ⟨go, Nx, less, step⟩
    · refine thnF (turnJ.done (X.blk s3 Hd scope ce foot) rfl rfl rfl calm i [] t _ G (fun _ _ => False) iv (still iv nn) here halt) fun r t2 ⟨hr, iv2⟩ => ?_
      subst hr
      have back : Inv X pins σ G t2 := inv3.call' (ch := foot) iv2.os iv2.base iv2.hok iv2.bare fun b hb => ⟨(foot3 b hb).1.2.2.2.1, (foot3 b hb).1.2.1, (foot3 b hb).1.2.2.2.2.1, (foot3 b hb).1.2.2.2.2.2⟩
      have unused : G ce.locals = none := iv2.free
      rw [locC] at unused
      obtain ⟨m, ns, _⟩ := iv2.loc
      have ns : t2.heap.Ns ce.locals m := ns
      rw [locC] at ns
      obtain ⟨f0, f1, f2, f3, f4, f5⟩ := inv3.fpOk (Nat.le_refl _) unused
      exact ⟨m, ns, fun h2 sb => ⟨.ref D, G, back.turned (t' := t2.toks) (fun b o hb e => (sb.2 b hb).trans e) f0 f1 f3 f4 f5, rfl, done⟩⟩
    · refine thnF (turnJ.item (X.blk s3 Hd scope ce foot) rfl rfl rfl calm i [] t _ G (fun _ _ => False) iv (still iv nn) here go) fun r t2 ⟨u, hr, got⟩ => ?_
      subst hr
      refine thnF got fun _ t3 ⟨x, G3, iv3, rx, yx, here3, nn3⟩ => ?_
      refine thnF (gT _ t3 _ G3 x u _ (iv3.pinned (still iv3 nn3) (turnJ.obj _ _ here3)) rx (step x G3 yx)) fun _ t4 ⟨τ, G4, iv4, same, q4⟩ => ?_
      refine thnF (tT _ t4 τ G4 _ iv4 q4) fun b t5 ⟨G5, iv5, q5⟩ => ?_
      have turned : ∀ {t' : Shared} {G' : Hp}, Inv (X.blk s3 Hd scope ce foot) ([] ++ pinsAt foot t3.heap) τ G' t' → Nx G' → ∃ m, m < n ∧ St m t' := fun {t' G'} iv' nx => by
        obtain ⟨m, lt, zz'⟩ := less G' nx
        have stay : ∀ b ∈ foot, ∀ o, t3.heap.get? b = some o → t'.heap.get? b = some o ∧ G' b = none := fun b hb o e =>
          have z := iv'.pin (b, o) (List.mem_append_right _ (List.mem_append_right _ (mem_pinsAt hb e)))
          ⟨z.1, z.2.1⟩
        refine ⟨m, lt, i + 1, G', (iv'.unpinned (pins := [])).weak (by rw [← same, wipe_length]) (fun j v e => ?_), turnJ.keep _ _ _ here3 fun b hb o e => (stay b hb o e).1, fun b hb => ?_, zz'⟩
        · rw [← same] at e
          exact (wipe_some e).1
        · obtain ⟨o, e, _⟩ := turnJ.obj _ _ here3 b hb
          exact (stay b hb o e).2
      cases b with
      | false =>
        simp only [Bool.false_eq_true, if_false] at q5 ⊢
        exact turned iv5 q5
      | true =>
        simp only [if_true] at q5 ⊢
        refine thnF (kT _ t5 τ G5 _ iv5 q5) fun z t6 ⟨y, G6, iv6, ry, q6⟩ => ?_
        refine thnF (vT _ t6 τ G6 _ iv6 q6) fun z2 t7 ⟨y2, G7, iv7, ry2, G8, put, nx⟩ => ?_
        exact put_in_block (X := X.blk s3 Hd scope ce foot) roomy iv7 put ry ry2 fun t8 iv8 => turned iv8 nx
  exact codeAny_compStart_dict walk (turnJ.self X.A 0 _ _ _ at4 walk)
end
end PL

set_option Elab.async false
set_option linter.all false
set_option maxRecDepth 100000
set_option maxHeartbeats 4000000
namespace PL
open PySem PySem.Spec L2
set_option autoImplicit false
/-! ### {k: v for ..} as a denotation -/
def dcLoop (own : List Nat) (tgt : DenG) (test : DenB) (ke ve : Den) : List PV → List PV → List PV → Env → Option ((List PV × List PV) × Env)
  | [], ks, vs, ρ => some ((ks, vs), ρ)
  | x :: xs, ks, vs, ρ => match tgt x ρ with
    | none => none
    | some ρ1 => match test ρ1 with
      | .ok true ρ2 => (match ke ρ2 with
        | .ok q ρ3 => (match ve ρ3 with
          | .ok e ρ4 => if (noOw ρ4 && kGood true q && decide (ks.length < 100000)) = true then dcLoop own tgt test ke ve xs (dPutQ ks vs q e).1 (dPutQ ks vs q e).2 (wipeE own ρ4) else none
          | _ => none)
        | _ => none)
      | .ok false ρ2 => if noOw ρ2 = true then dcLoop own tgt test ke ve xs ks vs (wipeE own ρ2) else none
      | _ => none
def dDc (own : List Nat) (di : DenL) (tgt : DenG) (test : DenB) (ke ve : Den) : Den := fun ρ => (di ρ).bind fun xs ρ1 => match dcLoop own tgt test ke ve xs [] [] (lockE own ρ1) with
  | some (kv, ρ2) => .ok (.dic true kv.1 kv.2) (backE own ρ1 ρ2)
  | none => .bad
section
variable {K : PySem.W.Frag} {mg : Str → Option Value} {W : WX}
theorem tup_key {S : Hp} {q : PV} {v : V} (r : Rep K S q v) (h : kGood true q = true) : ∃ kk b, q = .tup (List.map keyPV kk) ∧ v = .ref b ∧ S b = some (.tup (List.map kV kk)) := by
  obtain ⟨hg1, hg2⟩ := (Bool.and_eq_true _ _).mp h
  cases r with
  | @tup b us qs g1 g2 =>
    have hk : ((keys? qs).map (Sum.inr : List Key → KK)).isSome = true := hg1
    cases hks : keys? qs with
    | none => rw [hks] at hk; cases hk
    | some kk =>
      have eq := keys?_some hks
      subst eq
      rw [g2.keyVs] at g1
      exact ⟨kk, b, rfl, rfl, g1⟩
  | int i => cases hg2
  | str z => cases hg2
  | _ => cases hg1
theorem dc_inner {g : TG} {dg : DenG} {tt : TT} {dt : DenB} {tk tv : TE} {dk dv : Den} {own : List Nat} {H₀ S₀ : Hp} {M : Addr → Prop} {S1 H1 : Hp} {σ : St} {ρ1 : Env} {Q : VK} {xs : List PV} {J : It} (hg : GOk K g dg) (hgw : TgW own g) (hgm : GMono g) (ht : TOk K mg (fun _ _ _ _ => False) tt dt) (hk : EOk K mg (fun _ _ _ _ => False) tk dk) (hv : EOk K mg (fun _ _ _ _ => False) tv dv) (a1 : Abs K H₀ S₀ M S1 σ H1 ρ1) (rj : ItR K S1 H1 xs J)
    (hp : Post K mg W (rF K) H₀ S₀ M σ (match dcLoop own dg dt dk dv xs [] [] (lockE own ρ1) with
      | some (kv, ρ2) => .ok (.dic true kv.1 kv.2) (backE own ρ1 ρ2)
      | none => .bad) Q) : ∀ D, H1 D = none → ∃ Z : Nat → Nat → Hp → Prop, (∃ m, Z 0 m (upd H1 D (.dT []))) ∧ ∀ i m H, Z i m H →
  (J.stop i H ∧ Q (.ref D) H) ∨ (J.go i H ∧ ∃ Nx : Hp → Prop, (∀ H', Nx H' → ∃ m', m' < m ∧ Z (i + 1) m' H') ∧ ∀ x H', J.yld i H x H' → g x (wipe σ own) H' fun σ2 H2 => wipe σ2 own = wipe σ own ∧ tt σ2 H2 fun b H3 =>
    if b = true then tk σ2 H3 fun y H4 => tv σ2 H4 fun z H5 => ∃ H6, PutD H5 D y z H6 ∧ Nx H6 else Nx H3) := by
  intro D hD
  cases eL : dcLoop own dg dt dk dv xs [] [] (lockE own ρ1) with
  | none => simp only [eL] at hp; exact hp.elim
  | some yr =>
    obtain ⟨kv, ρ2⟩ := yr
    simp only [eL] at hp
    have hsz : (100000 : Nat) < sizeLine := by rw [sizeLine_eq]; decide
    have nL : ¬ Lent σ ρ1 D := fun ⟨i, s, p, h1, h2, h3⟩ => by
      obtain ⟨c, o, k1, _, _, _, k5, _⟩ := a1.own i s p h1 h2
      rw [h3] at k1
      cases k1
      rw [hD] at k5; cases k5
    have nOwn : ∀ {S' : Hp} {σ' : St} {H' : Hp} {ρ' : Env}, Abs K H1 S1 (Lent σ ρ1) S' σ' H' ρ' → ∀ (i : Nat) s p, ρ'[i]? = some s → s.own? = some p → noOw ρ' = true → σ'[i]? ≠ some (some (.ref D)) := fun {S' σ' H' ρ'} a i s p e es no z => by
      obtain ⟨c, o, k1, k2, k3, _⟩ := a.own i s p e es
      rw [z] at k1
      cases k1
      cases s with
      | io q => cases es; exact nL (k3 rfl)
      | ow q => exact noOw_get no e
      | un => cases es
      | sh q => cases es
    let Inv : Nat → Hp → Prop := fun i H => i ≤ xs.length ∧ ∃ S ρ kvs ks vs, Abs K H1 S1 (Lent σ ρ1) S (wipe σ own) H ρ ∧ noOw ρ = true ∧ H D = some (.dT kvs) ∧ S D = none ∧ OwnO K S (.dic true ks vs) (.dT kvs) ∧ dcLoop own dg dt dk dv (xs.drop i) ks vs ρ = some (kv, ρ2)
    refine ⟨fun i m H => m = xs.length - i ∧ Inv i H, ⟨xs.length, by simp, Nat.zero_le _, S1, lockE own ρ1, [], [], [], (a1.enter own).step (Step.hid a1.sub hD), noOw_lockE _ _, upd_same, Same.free a1.sub hD, ⟨rfl, .nil⟩, by rw [List.drop_zero]; exact eL⟩, ?_⟩
    rintro i m H' ⟨rfl, hle, S', ρ', kvs, ks, vs, a', no', hD', sD', rp, eL'⟩
    obtain ⟨js, jg⟩ := rj i S' H' a'.base a'.sub
    by_cases hlt : i < xs.length
    · have ex : xs[i]? = some xs[i] := List.getElem?_eq_getElem hlt
      obtain ⟨j1, j2⟩ := jg _ ex
      rw [List.drop_eq_getElem_cons hlt] at eL'
      unfold dcLoop at eL'
      cases e1 : dg xs[i] ρ' with
      | none => simp only [e1] at eL'; cases eL'
      | some ρa =>
        simp only [e1] at eL'
        refine .inr ⟨j1, fun H => Inv (i + 1) H, fun H2 hN => ⟨xs.length - (i + 1), by omega, rfl, hN⟩, fun x H2 y => ?_⟩
        obtain ⟨S2, st, rx⟩ := j2 x H2 y
        have aS := a'.step st
        have aT : Abs K H2 S2 (Lent σ ρ1) S2 (wipe σ own) H2 ρ' := aS.here no'
        have D2 : H2 D = some (.dT kvs) := st.h _ _ hD'
        have sD2 : S2 D = none := by
          cases q : S2 D with
          | none => rfl
          | some o =>
            rcases st.new D o q with z | z | ⟨us, z⟩
            · rw [sD'] at z; cases z
            · rw [hD'] at z; cases z
            · subst z
              have z := (aS.sub _ _ q).symm.trans D2
              cases z
        have hg1 := hg H2 S2 (Lent σ ρ1) S2 (wipe σ own) H2 ρ' ρa xs[i] x (fun σ2 H2' => H2' = H2 ∧ Abs K H2 S2 (Lent σ ρ1) S2 σ2 H2 ρa) aT rx e1 fun σ2 a2 => ⟨rfl, a2⟩
        have hg2 := hgw x (wipe σ own) H2 _ hg1
        have body : ∀ σ2 H2', (wipe σ2 own = wipe (wipe σ own) own ∧ H2' = H2 ∧ Abs K H2 S2 (Lent σ ρ1) S2 σ2 H2 ρa) → (wipe σ2 own = wipe σ own ∧ tt σ2 H2' fun b H3 =>
            if b = true then tk σ2 H3 fun y H4 => tv σ2 H4 fun z H5 => ∃ H6, PutD H5 D y z H6 ∧ Inv (i + 1) H6 else Inv (i + 1) H3) := by
          rintro σ2 H2' ⟨hw, rfl, a2⟩
          rw [wipe_wipe] at hw
          refine ⟨hw, ?_⟩
          have bk : ∀ {S3 H3 : Hp} {ρ3 : Env}, Abs K H2' S2 (Lent σ ρ1) S3 σ2 H3 ρ3 → noOw ρ3 = true → Abs K H1 S1 (Lent σ ρ1) S3 (wipe σ own) H3 (wipeE own ρ3) := fun {S3 H3 ρ3} a3 no3 => by
            refine (aS.along a3 no3).forget ?_ fun j s e n => ?_
            · rw [wipeE_length, a3.len, ← wipe_len σ2 own, hw]
            · obtain ⟨h1, h2⟩ := wipeE_get e n
              refine ⟨h2, ?_⟩
              rw [← hw, getElem?_wipe h1]
          have kD : ∀ {S3 H3 : Hp} {ρ3 : Env}, Abs K H2' S2 (Lent σ ρ1) S3 σ2 H3 ρ3 → H3 D = some (.dT kvs) ∧ S3 D = none := fun {S3 H3 ρ3} a3 => by
            refine ⟨a3.keep D _ D2 nL, ?_⟩
            cases q : S3 D with
            | none => rfl
            | some o =>
              rcases a3.grow D o q with z | z | ⟨us, z⟩
              · rw [sD2] at z; cases z
              · rw [D2] at z; cases z
              · subst z
                have z := (a3.sub _ _ q).symm.trans (a3.keep D _ D2 nL)
                cases z
          refine ht H2' S2 (Lent σ ρ1) S2 σ2 H2' ρa _ a2 ?_
          cases e2 : dt ρa with
          | bad => simp only [e2] at eL'; cases eL'
          | exc x ρb => simp only [e2] at eL'; cases eL'
          | ok b ρb =>
            intro b' S3 H3 a3 rb
            cases rb
            simp only [e2] at eL'
            cases b with
            | false =>
              simp only [Bool.false_eq_true, if_false]
              by_cases no3 : noOw ρb = true
              · simp only [if_pos no3] at eL'
                obtain ⟨d1, d2⟩ := kD a3
                exact ⟨hlt, S3, wipeE own ρb, kvs, ks, vs, bk a3 no3, noOw_wipeE _ _ no3, d1, d2, rp.up (st.s.trans a3.base), eL'⟩
              · simp only [if_neg no3] at eL'; cases eL'
            | true =>
              simp only [if_true]
              have a3' : Abs K H2' S3 (Lent σ ρ1) S3 σ2 H3 ρb := a3.rebase
              refine hk H2' S3 (Lent σ ρ1) S3 σ2 H3 ρb _ a3' ?_
              cases e3 : dk ρb with
              | bad => simp only [e3] at eL'; cases eL'
              | exc x ρc => simp only [e3] at eL'; cases eL'
              | ok q ρc =>
                intro y4 S4 H4 a4' rq
                have a4 := a3.unbase a4'
                simp only [e3] at eL'
                refine hv H2' S4 (Lent σ ρ1) S4 σ2 H4 ρc _ a4.rebase ?_
                cases e4 : dv ρc with
                | bad => simp only [e4] at eL'; cases eL'
                | exc x ρd => simp only [e4] at eL'; cases eL'
                | ok w ρd =>
                  intro z5 S5 H5 a5' rw5
                  have a5 := a4.unbase a5'
                  simp only [e4] at eL'
                  by_cases hz : (noOw ρd && kGood true q && decide (ks.length < 100000)) = true
                  · simp only [if_pos hz] at eL'
                    simp only [Bool.and_eq_true, decide_eq_true_eq] at hz
                    obtain ⟨⟨no5, kg⟩, hl⟩ := hz
                    obtain ⟨d1, d2⟩ := kD a5
                    obtain ⟨kk, b, rfl, rfl, hb⟩ := tup_key (S := S4) rq kg
                    have rp5 := rp.up (st.s.trans a5.base)
                    have hl2 : kvs.length < sizeLine := by
                      have : ks = kvs.map (fun p => PV.tup (p.1.map keyPV)) := rp.1
                      rw [this, List.length_map] at hl
                      omega
                    refine ⟨_, ⟨kvs, kk, b, rfl, a5.sub _ _ (a5'.base _ _ hb), d1, hl2, rfl⟩, hlt, S5, wipeE own ρd, L2.putK kvs kk z5, _, _, (bk a5 no5).other hD d2 fun j s p e es => nOwn (bk a5 no5) j s p e es (noOw_wipeE _ _ no5), noOw_wipeE _ _ no5, upd_same, d2, OwnO.putT rp5 rw5, eL'⟩
                  · simp only [if_neg hz] at eL'; cases eL'
        exact hgm x (wipe σ own) H2 _ _ body hg2
    · have ei : i = xs.length := by omega
      subst ei
      rw [List.drop_length] at eL'
      unfold dcLoop at eL'
      cases eL'
      refine .inl ⟨js (Nat.le_refl _), hp (.ref D) S' H' (a1.exit a') ⟨D, .dT kvs, rfl, a1.none0 hD, sD', hD', rp, fun j s q ej es z => ?_⟩⟩
      have a2 := a1.exit a'
      obtain ⟨c, o, k1, k2, k3, k4, k5, k6⟩ := a2.own j s q ej es
      rcases backE_get ej (by intro w; subst w; cases es) with ⟨_, q', hq, _⟩ | ⟨h1, t, t', h2, h3, h4⟩
      · subst hq; cases es
      · have ht : ∃ p, t'.own? = some p := by
          cases t <;> cases t' <;> simp [Sl.back] at h4 <;> subst h4 <;> first | (cases es; done) | exact ⟨_, rfl⟩
        obtain ⟨p, hp'⟩ := ht
        exact nOwn a' j t' p h3 hp' no' (by rw [getElem?_wipe h1]; exact z)
theorem fo_dc {wi : TI} {di : DenL} {g : TG} {dg : DenG} {tt : TT} {dt : DenB} {tk tv : TE} {dk dv : Den} {own : List Nat} (hi : IOk K mg W wi di) (hg : GOk K g dg) (hgw : TgW own g) (hgm : GMono g) (ht : TOk K mg (fun _ _ _ _ => False) tt dt) (hk : EOk K mg (fun _ _ _ _ => False) tk dk) (hv : EOk K mg (fun _ _ _ _ => False) tv dv) :
    FOk K mg W (tDcT wi g tt tk tv own) (dDc own di dg dt dk dv) := fun H₀ S₀ M S σ H ρ Q ab hp =>
  hi.bind (Rl' := rF K) ab hp fun xs ρ1 J S1 H1 _ a1 _ rj hp => dc_inner hg hgw hgm ht hk hv a1 rj hp
end
section
variable {X : Cx} {W : WX} {k : Nat} {pos p p2 : Pos} {e a : Expr} {da db : Den} {x : Str} {dl : DenL}
theorem df_dc {kx vx tg iter : Expr} {ifs : List Expr} {scope : Scope} {g : TG} {dg : DenG} {dt : DenB} {dk dv : Den} (own : List (Str × Nat)) (c : Ctx X W k) (hi : DI X W tg iter dl) (hl : LG X.K (own.map (·.2)) g dg)
    (hg : ∀ (s : Shared) (H : Hp) (C : Addr) (cl : List (Str × Addr)) (fp : List Addr), DG (X.blk s H scope (PySem.compEnvC scope cl C X.env) fp) tg g dg) (ht : ∀ (s : Shared) (H : Hp) (C : Addr) (cl : List (Str × Addr)) (fp : List Addr), DTs (X.blk s H scope (PySem.compEnvC scope cl C X.env) fp) (fun _ _ _ _ => False) ifs dt)
    (hk : ∀ (s : Shared) (H : Hp) (C : Addr) (cl : List (Str × Addr)) (fp : List Addr), DE (X.blk s H scope (PySem.compEnvC scope cl C X.env) fp) (fun _ _ _ _ => False) kx dk) (hv : ∀ (s : Shared) (H : Hp) (C : Addr) (cl : List (Str × Addr)) (fp : List Addr), DE (X.blk s H scope (PySem.compEnvC scope cl C X.env) fp) (fun _ _ _ _ => False) vx dv)
    (ok : BlkOk X.N X.env.scope scope own := by exact blkOk_by (by decide +kernel)) (hs : ∀ z, foldedSetIterable iter X.env z = pure z := by intro _; rfl) :
    DF X W (.DictComp kx vx [⟨tg, iter, ifs, 0⟩] scope pos) (dDc (own.map (·.2)) dl dg dt dk dv) :=
  DF.of (pe_dcT (by have := c.hu; omega) c.calm c.nd hi ok (fun s H C cl fp => (hg s H C cl fp).pg) ht hk hv hs) (fo_dc canon_ok hl.ok hl.w hl.mono canon_ok canon_ok canon_ok)
@[simp] theorem ap_dDc {own : List Nat} {di : DenL} {tgt : DenG} {test : DenB} {ρ : Env} : dDc own di tgt test da db ρ = (di ρ).bind fun xs ρ1 => match dcLoop own tgt test da db xs [] [] (lockE own ρ1) with
  | some (kv, ρ2) => .ok (.dic true kv.1 kv.2) (backE own ρ1 ρ2)
  | none => .bad := id rfl
end
end PL

set_option Elab.async false
set_option linter.all false
set_option maxRecDepth 100000
set_option maxHeartbeats 4000000
namespace PL
open PySem PySem.Spec L2
set_option autoImplicit false
/-! ### try: .. except X as n: return (tag, n.field) -/
abbrev tTag (t : Str) (te : TE) : TE := tTup (tCons (tC (.str t)) (tCons te tNil))
def tagOf : List (Str × Str) → Str → Option Str
  | [], _ => none
  | y :: r, x => if x = y.1 then some y.2 else tagOf r x
def sTryT (cs : List (Str × Str)) (fld : Str) (i : Nat) (body : DenS) : DenS := fun ρ => match body ρ with
  | .exc x ρ1 => (match tagOf cs x.cls with
    | some t => if (decide (x.fld = fld) && decide (i < ρ1.length)) = true then .rt (.tup [.str t, x.val]) (ρ1.set i .un) else .bad
    | none => .bad)
  | r => r
theorem clauseT {X : Cx} {n x fld t : Str} {i j jj : Nat} {q q' p1 p2 p3 p4 p5 : Pos} {hs : List ExceptHandler} {cl : List Clause} (E : Ec X.prog X.w X.K X.mg X.base x fld) (h : Clauses X n hs cl) (hg : Gl X x := by rfl) (hN : X.N[i]? = some n := by rfl) (hv : Vis X.env.scope n := by first | exact Or.inl rfl | exact Or.inr (Or.inl rfl) | exact Or.inr (Or.inr rfl))
    (hb : attributeBase (.Name n p1) fld X.env (eval (.Name n p1) X.env) = eval (.Name n p1) X.env := by rfl) (hd : (n == ("__debug__" : Str)) = false := by decide) (hcd : (n == ("__classdict__" : Str)) = false := by decide) (hdb : (x == ("__debug__" : Str)) = false := by decide)
    (na : starEach [.Attribute (.Name n p1) fld p2] X.env = (false, eval (.Attribute (.Name n p1) fld p2) X.env) :: starEach [] X.env := by rfl) (nb : starEach [.Constant (.str t) j p5, .Attribute (.Name n p1) fld p2] X.env = (false, eval (.Constant (.str t) j p5) X.env) :: starEach [.Attribute (.Name n p1) fld p2] X.env := by rfl) :
    Clauses X n (.ExceptHandler (some (.Name x q)) (some n) [.Return (some (.Tuple [.Constant (.str t) j p5, .Attribute (.Name n p1) fld p2] jj p4)) p3] q' :: hs) ((.ref (He.ga X.K x), fun a cls d => tRet (tTag t (tXf a cls d (He.ga X.K x) fld (tVar i)))) :: cl) :=
  .cons ⟨hg, hdb, .inl E.at_⟩ (fun a ob cls d pn hz hf => pss_one (ps_ret (pe_tup (pa_cons pe_str (pa_cons (pe_xf E.k.xf E.k.fld hz hf (pe_var hN hv hd hcd) hb) pa_nil na) nb)))) h
theorem clause_inT {K : PySem.W.Frag} {mg : Str → Option Value} {L : List Str} {out : WX} {D : Ends} {i : Nat} {x : Exn} {S0 : Hp} {cls : Value} {d : Option Addr} {σ : L2.St} {G : Hp} {fld t : Str} (ex : exmB K L = true) (hmg : ∀ y ∈ L, mg y = some (.ref (He.ga K y))) (hx : x.cls ∈ L) (re : ExcRep K mg S0 G x cls d) (hf : x.fld = fld) (hi : i < σ.length) (hD : ∀ v, Rep K S0 x.val v → ∀ c, G c = none → D.rt (.ref c) (upd G c (.tup [.str t, v]))) :
    ∀ (cs : List (Str × Str)), (∀ y ∈ cs, y.1 ∈ L) → tagOf cs x.cls = some t → wCl K out D i (cs.map fun y => (.ref (He.ga K y.1), fun a cls d => tRet (tTag y.2 (tXf a cls d (He.ga K y.1) fld (tVar i))))) cls d σ G := by
  obtain ⟨C, dx, v, h1, h2, h3, h4, h5⟩ := re
  have eC : C = He.ga K x.cls := by
    have z := hmg _ hx
    rw [h1] at z
    cases z
    rfl
  subst eC
  subst h2
  intro cs
  induction cs with
  | nil => intro _ h; cases h
  | cons y r ih =>
    intro hs h
    unfold tagOf at h
    refine ⟨decide (x.cls = y.1), exmB_ok ex hx (hs y List.mem_cons_self), fun hit a _ => ?_, fun hit => ?_⟩
    · have e : x.cls = y.1 := of_decide_eq_true hit
      rw [if_pos e] at h
      cases h
      refine ⟨.ref a, List.getElem?_set_self hi, rfl, by rw [e], dx, [(x.fld, v)], v, h3, h4, ?_, (by rw [sizeLine_eq]; simp), fun c n => hD v h5 c n⟩
      rw [← hf]
      simp [List.lookup]
    · have ne : x.cls ≠ y.1 := of_decide_eq_false hit
      rw [if_neg ne] at h
      exact ih (fun z hz => hs z (List.mem_cons_of_mem _ hz)) h
section
variable {X : Cx} {W : WX} {k : Nat}
theorem ds_tryT {body : List Stmt} {h₀ : ExceptHandler} {hs : List ExceptHandler} {pos : Pos} {n fld : Str} {d : DenS} (L : List Str) (cs : List (Str × Str)) (i : Nat) (ex : exmB X.K L = true) (hmg : ∀ y ∈ L, X.mg y = some (.ref (He.ga X.K y))) (c : Ctx X W k)
    (hb : ∀ (W' : WX) (pn : List (Addr × Obj)) (xe : Value → Shared → Prop), Ctx (X.tr pn xe) W' k → Po (X.tr pn xe) → DSs (X.tr pn xe) W' false body d) (hcl : Clauses X n (h₀ :: hs) (cs.map fun y => (.ref (He.ga X.K y.1), fun a cls d => tRet (tTag y.2 (tXf a cls d (He.ga X.K y.1) fld (tVar i))))))
    (hsub : ∀ y ∈ cs, y.1 ∈ L := by decide) (hi : X.N[i]? = some n := by rfl) (hln : X.env.kindOf n = some .local := by rfl) (hstk : X.stack = X.env :: X.outer := by rfl) (hfr : X.env.frame = some X.env.locals := by rfl) :
    DS X W false (.Try body (h₀ :: hs) [] [] pos) (sTryT cs fld i d) := by
  have P := ps_tryN (pos := pos) (out := W) c.nd hi hln hstk hfr c.tk (tb := fun W' => canonS X.K X.mg W' false d) (fun W' pn xe tk po => hb W' pn xe ⟨c.calm, c.nd, c.room, tk⟩ po) hcl
  refine ⟨fun pins s σ H D I q => P.run pins s σ H D I ?_⟩
  obtain ⟨H₀, S₀, M, S, ρ, ab, hp⟩ := q
  refine ⟨H₀, S₀, M, S, ρ, ab, ?_⟩
  unfold sTryT at hp
  cases e : d ρ with
  | bad => rw [e] at hp; exact hp
  | nx ρ1 => rw [e] at hp; exact hp
  | bk ρ1 => rw [e] at hp; exact hp
  | ct ρ1 => rw [e] at hp; exact hp
  | rt p ρ1 => rw [e] at hp; exact hp
  | exc x ρ1 =>
    simp only [e] at hp
    cases ht : tagOf cs x.cls with
    | none => simp only [ht] at hp; exact hp.elim
    | some t =>
      simp only [ht] at hp
      by_cases hc : (decide (x.fld = fld) && decide (i < ρ1.length)) = true
      · rw [if_pos hc] at hp
        obtain ⟨hc2, hc3⟩ := (Bool.and_eq_true _ _).mp hc
        have hm : x.cls ∈ L := by
          have : ∀ l : List (Str × Str), tagOf l x.cls = some t → ∃ y ∈ l, y.1 = x.cls := by
            intro l
            induction l with
            | nil => intro h; cases h
            | cons y r ih =>
              intro h
              unfold tagOf at h
              by_cases hy : x.cls = y.1
              · exact ⟨y, by simp, hy.symm⟩
              · rw [if_neg hy] at h
                obtain ⟨z, h1, h2⟩ := ih h
                exact ⟨z, List.mem_cons_of_mem _ h1, h2⟩
          obtain ⟨y, h1, h2⟩ := this cs ht
          rw [← h2]
          exact hsub y h1
        intro cls dd S' σ' H' a1 re
        have hlt : i < σ'.length := by rw [← a1.len]; exact of_decide_eq_true hc3
        refine clause_inT ex hmg hm re (of_decide_eq_true hc2) hlt (fun v rv b hb2 => ?_) cs hsub ht
        have a2 : Abs X.K H₀ S₀ M S' σ' H' (ρ1.set i .un) := a1.forget (by rw [List.length_set]; exact a1.len) fun j s ej hn => by
          by_cases hj : j = i
          · subst hj
            rw [List.getElem?_set_self (by rw [a1.len]; exact hlt)] at ej
            cases ej
            exact absurd rfl hn
          · rw [List.getElem?_set_ne (Ne.symm hj)] at ej
            exact ⟨ej, rfl⟩
        have up := same_upd (o := .tup [.str t, v]) (Same.free a2.sub hb2)
        exact hp (.ref b) _ σ' _ (a2.step (Step.new1 a2.sub hb2)) (.tup upd_same (.cons (.str t) (.cons (rv.mono up) .nil)))
      · rw [if_neg hc] at hp
        exact hp.elim
end
end PL

set_option Elab.async false
set_option linter.all false
set_option maxRecDepth 100000
set_option maxHeartbeats 4000000
namespace PL
open PySem PySem.Spec L2
set_option autoImplicit false
/-! ### y = [.. for .. in a dict] -/
section
variable {X : Cx} {W : WX} {fr : Bool} {k : Nat} {pos p p2 p3 : Pos} {x y : Str}
theorem ps_lockA {st : Stmt} {t : TE} {i : Nat} (h : PS X st (tAsg t (L2.gName i))) : PS X st (tAsg (tLockR t) (L2.gName i)) := ⟨fun pins s σ H D I q => by
  rcases q with q | q
  · exact (ps_lock h).run pins s σ H D I q
  · exact h.run pins s σ H D I q⟩
theorem ds_setLcD {elt tg : Expr} {ifs : List Expr} {scope : Scope} {g : TG} {dg : DenG} {dt : DenB} {de : Den} (j i : Nat) (own : List (Str × Nat)) (c : Ctx X W k) (hv : PE X (.Name x p3) (tVar i)) (hl : LG X.K (own.map (·.2)) g dg)
    (hg : ∀ (s : Shared) (H : Hp) (C : Addr) (cl : List (Str × Addr)) (fp : List Addr), DG (X.blk s H scope (PySem.compEnvC scope cl C X.env) fp) tg g dg) (ht : ∀ (s : Shared) (H : Hp) (C : Addr) (cl : List (Str × Addr)) (fp : List Addr), DTs (X.blk s H scope (PySem.compEnvC scope cl C X.env) fp) (fun _ _ _ _ => False) ifs dt)
    (he : ∀ (s : Shared) (H : Hp) (C : Addr) (cl : List (Str × Addr)) (fp : List Addr), DE (X.blk s H scope (PySem.compEnvC scope cl C X.env) fp) (fun _ _ _ _ => False) elt de) (hy : X.N[j]? = some y := by rfl) (hyl : X.env.scope.names.lookup y = some .local := by rfl)
    (hsw : swapsWith (.ListComp elt [⟨tg, .Name x p3, ifs, 0⟩] scope p2) (some (.Name y p)) pos.line X.env = pure true := by exact sw_true rfl rfl rfl (by decide +kernel)) (ok : BlkOk X.N X.env.scope scope own := by exact blkOk_by (by decide +kernel)) (hs : ∀ z, foldedSetIterable (.Name x p3) X.env z = pure z := by intro _; rfl) :
    DS X W fr (.Assign [.Name y p] (.ListComp elt [⟨tg, .Name x p3, ifs, 0⟩] scope p2) pos) (sSet j (dLcD (own.map (·.2)) i dg dt de)) :=
  DS.of (ps_lockA (ps_setLc c.calm c.nd hy hyl hsw (pi_keys hv) ok (fun s H C cl fp => (hg s H C cl fp).pg) ht he hs)) (so_set (fo_lcD hl.ok hl.w hl.mono canon_ok canon_ok).shared)
theorem ds_setLcDF {elt tg : Expr} {ifs : List Expr} {scope : Scope} {g : TG} {dg : DenG} {dt : DenB} {de : Den} (j i : Nat) (own : List (Str × Nat)) (c : Ctx X W k) (hv : PE X (.Name x p3) (tVar i)) (hl : LG X.K (own.map (·.2)) g dg)
    (hg : ∀ (s : Shared) (H : Hp) (C : Addr) (cl : List (Str × Addr)) (fp : List Addr), DG (X.blk s H scope (PySem.compEnvC scope cl C X.env) fp) tg g dg) (ht : ∀ (s : Shared) (H : Hp) (C : Addr) (cl : List (Str × Addr)) (fp : List Addr), DTs (X.blk s H scope (PySem.compEnvC scope cl C X.env) fp) (fun _ _ _ _ => False) ifs dt)
    (he : ∀ (s : Shared) (H : Hp) (C : Addr) (cl : List (Str × Addr)) (fp : List Addr), DE (X.blk s H scope (PySem.compEnvC scope cl C X.env) fp) (fun _ _ _ _ => False) elt de) (hy : X.N[j]? = some y := by rfl) (hyl : X.env.scope.names.lookup y = some .local := by rfl)
    (hsw : swapsWith (.ListComp elt [⟨tg, .Name x p3, ifs, 0⟩] scope p2) (some (.Name y p)) pos.line X.env = pure true := by exact sw_true rfl rfl rfl (by decide +kernel)) (ok : BlkOk X.N X.env.scope scope own := by exact blkOk_by (by decide +kernel)) (hs : ∀ z, foldedSetIterable (.Name x p3) X.env z = pure z := by intro _; rfl) :
    DS X W fr (.Assign [.Name y p] (.ListComp elt [⟨tg, .Name x p3, ifs, 0⟩] scope p2) pos) (sSetF j (dLcD (own.map (·.2)) i dg dt de)) :=
  DS.of (ps_lockA (ps_setLc c.calm c.nd hy hyl hsw (pi_keys hv) ok (fun s H C cl fp => (hg s H C cl fp).pg) ht he hs)) (so_setF (fo_lcD hl.ok hl.w hl.mono canon_ok canon_ok))
end
end PL

set_option Elab.async false
set_option linter.all false
set_option maxRecDepth 100000
set_option maxHeartbeats 4000000
namespace PL
open PySem PySem.Spec L2
open PyProof.Rows hiding St
set_option autoImplicit false
/-! ### {a tuple: v} -/
def tDispT (trs : List (TE × TE)) : TE := fun σ H Q => ∀ p, H p = none → tPairs trs σ (upd H p (.dT [])) fun ps H2 => ∃ y z H3, ps = [(y, z)] ∧ PutD H2 p y z H3 ∧ Q (.ref p) H3
def dDispT (prs : List (Den × Den)) : Den := fun ρ => match dPairs prs (lockE [] ρ) with
  | some ([(q, e)], ρ2) => if (noOw ρ2 && kGood true q) = true then .ok (.dic true [q] [e]) (backE [] ρ ρ2) else .bad
  | _ => .bad
section
variable {X : Cx} {W : WX} {pos : Pos} {k : Nat} {K : PySem.W.Frag} {mg : Str → Option Value}
theorem pe_dispT {keys : List (Option Expr)} {values : List Expr} {trs : List (TE × TE)} (roomy : X.A.units + 1 < cLine) (h : PPs X pos keys values trs) (hall : keys.all (·.isSome) = true) (hl : keys.length = values.length) (h0 : keys ≠ []) (h15 : keys.length ≤ 15) : PE X (.Dict keys values pos) (tDispT trs) := by
  refine ⟨fun pins s σ H Q I top => ?_⟩
  have empty := I.hok.fresh (Nat.le_refl s.heap.objs.size)
  have laid : Inv X pins σ (upd H s.heap.objs.size (.dT [])) { s with heap := s.heap.push { cls := .type "dict", data := .dict #[] } } := I.laid (t' := s.toks) (fun _ _ e => Heap.get?_push_of_some _ e) (Nat.le_refl _) (dt_empty s.heap I.big)
  refine PySem.wpAny_Dict_any hall hl h0 h15 (thn (h.run pins _ σ _ _ laid (top _ empty)) fun ws s2 ⟨ps, H2, I2, rel, y, z, H3, ep, put, q2⟩ => ?_)
  subst ep
  cases rel with
  | cons r1 rest =>
    cases rest
    obtain ⟨ry, rz⟩ := r1
    unfold storeAll
    refine wpAny_bind (wpAny_bind (put_in_block roomy I2 put ry rz fun s3 I3 => wpAny_pure ?_))
    exact wpAny_pure ⟨.ref s.heap.objs.size, H3, I3, rfl, q2⟩
theorem fo_dispT {trs : List (TE × TE)} {prs : List (Den × Den)} (h : POk K mg (fun _ _ _ _ => False) trs prs) : FOk K mg W (tDispT trs) (dDispT prs) := fun H₀ S₀ M S σ H ρ Q ab hp => by
  unfold dDispT at hp
  split at hp
  · rename_i q e ρ2 eP
    by_cases hc : (noOw ρ2 && kGood true q) = true
    · simp only [if_pos hc] at hp
      obtain ⟨hc0, hc1⟩ := (Bool.and_eq_true _ _).mp hc
      intro D hD
      have ab2 := ab.step (Step.hid (o := .dT []) ab.sub hD)
      have aE := ab2.enter []
      have nL : ¬ Lent σ ρ D := fun ⟨i, s, p, h1, h2, h3⟩ => by
        obtain ⟨c, o, k1, _, _, _, k5, _⟩ := ab.own i s p h1 h2
        rw [h3] at k1
        cases k1
        rw [hD] at k5; cases k5
      have sD : S D = none := Same.free ab.sub hD
      refine pairs_run h aE eP fun vs S' H' a1 s1 r1 r2 => ?_
      have kD : H' D = some (.dT []) := a1.keep D _ upd_same nL
      have sD' : S' D = none := by
        cases q : S' D with
        | none => rfl
        | some o =>
          rcases a1.grow D o q with z | z | ⟨us, z⟩
          · rw [sD] at z; cases z
          · rw [upd_same] at z; cases z
          · subst z
            have z := (a1.sub _ _ q).symm.trans kD
            cases z
      match vs, r1, r2 with
      | [(y, z)], .cons ry .nil, .cons rz .nil =>
        obtain ⟨kk, b, rfl, eb, hb⟩ := tup_key ry hc1
        have eb : y = V.ref b := eb
        subst eb
        have aX := ab2.exit (own := []) a1
        have hn : ∀ (j : Nat) s q, (backE [] ρ ρ2)[j]? = some s → s.own? = some q → σ[j]? ≠ some (some (.ref D)) := fun j s q ej es z => by
          obtain ⟨c, o, k1, k2, k3, k4, k5, k6⟩ := aX.own j s q ej es
          rw [z] at k1
          cases k1
          rcases backE_get ej (by intro w; subst w; cases es) with ⟨_, q', hq, _⟩ | ⟨h1, t, t', h2, h3, h4⟩
          · subst hq; cases es
          · have ht : ∃ p, t.own? = some p := by
              cases t <;> cases t' <;> simp [Sl.back] at h4 <;> subst h4 <;> first | (cases es; done) | exact ⟨_, rfl⟩
            obtain ⟨p, hp'⟩ := ht
            exact nL ⟨j, t, p, h2, hp', z⟩
        have own : OwnO K S' (.dic true [.tup (kk.map keyPV)] [e]) (.dT (L2.putK [] kk z)) := ⟨rfl, .cons rz .nil⟩
        exact ⟨_, _, _, rfl, ⟨[], kk, b, rfl, a1.sub _ _ hb, kD, by rw [sizeLine_eq]; simp, rfl⟩, hp (.ref D) S' _ (aX.other (ab.none0 hD) sD' hn) ⟨D, _, rfl, ab.none0 hD, sD', upd_same, own, hn⟩⟩
    · simp only [if_neg hc] at hp
      exact hp.elim
  · exact hp.elim
theorem df_dispT {keys : List (Option Expr)} {values : List Expr} {prs : List (Den × Den)} (c : Ctx X W k) (h : DPs X W pos keys values prs) (hall : keys.all (·.isSome) = true := by rfl) (hl : keys.length = values.length := by rfl) (h0 : keys ≠ [] := by intro z; cases z) (h15 : keys.length ≤ 15 := by decide) :
    DF X W (.Dict keys values pos) (dDispT prs) := by
  obtain ⟨trs, h1, h2⟩ := h.ex
  exact DF.of (pe_dispT (by have := c.hu; omega) h1 hall hl h0 h15) (fo_dispT h2)
@[simp] theorem ap_dDispT {prs : List (Den × Den)} {ρ : Env} : dDispT prs ρ = match dPairs prs (lockE [] ρ) with
  | some ([(q, e)], ρ2) => if (noOw ρ2 && kGood true q) = true then .ok (.dic true [q] [e]) (backE [] ρ ρ2) else .bad
  | _ => .bad := id rfl
end
end PL

set_option Elab.async false
set_option linter.all false
set_option maxRecDepth 100000
set_option maxHeartbeats 4000000
namespace PL
open PySem PySem.Spec L2
set_option autoImplicit false
/-! ### more ways to read a body -/
theorem sIf_t {dt : DenB} {a b : DenS} {ρ ρ1 : Env} (h : dt ρ = .ok true ρ1) : sIf dt a b ρ = a ρ1 := by rw [ap_sIf, h]; rfl
theorem sIf_f {dt : DenB} {a b : DenS} {ρ ρ1 : Env} (h : dt ρ = .ok false ρ1) : sIf dt a b ρ = b ρ1 := by rw [ap_sIf, h]; rfl
theorem seq_rt {a b : DenS} {ρ ρ1 : Env} {p : PV} (h : a ρ = .rt p ρ1) : sSeq a b ρ = .rt p ρ1 := by rw [ap_sSeq, h]
theorem seq_exc {a b : DenS} {ρ ρ1 : Env} {x : Exn} (h : a ρ = .exc x ρ1) : sSeq a b ρ = .exc x ρ1 := by rw [ap_sSeq, h]
theorem sFor_ok {di : DenL} {dg : DenG} {b : DenS} {ρ ρ1 : Env} {xs : List PV} (h : di ρ = .ok xs ρ1) : sFor di dg b ρ = dLoop dg b xs ρ1 := by rw [ap_sFor, h]; rfl
theorem sSet_ok {i : Nat} {da : Den} {p : PV} {ρ ρ1 : Env} (h : da ρ = .ok p ρ1) : sSet i da ρ = .nx (ρ1.set i (.sh p)) := by rw [ap_sSet, h]; rfl
theorem sSetF_ok {i : Nat} {da : Den} {p : PV} {ρ ρ1 : Env} (h : da ρ = .ok p ρ1) : sSetF i da ρ = .nx (ρ1.set i (.ow p)) := by rw [ap_sSetF, h]; rfl
theorem sRet_ok {da : Den} {p : PV} {ρ ρ1 : Env} (h : da ρ = .ok p ρ1) : sRet da ρ = .rt p ρ1 := by rw [ap_sRet, h]; rfl
theorem sExpr_ok {da : Den} {p : PV} {ρ ρ1 : Env} (h : da ρ = .ok p ρ1) : sExpr da ρ = .nx ρ1 := by rw [ap_sExpr, h]; rfl
theorem run_ex {fr : Bool} {n len : Nat} {d : DenS} {ps : List PV} {env : Env} {p : PV} (e : ∃ ρ, d env = .rt p ρ) (hl : ps.length = n := by rfl) (henv : argSl false ps ++ List.replicate (len - n) .un = env := by rfl) : runD false fr n len d ps = .ok p .non := by
  obtain ⟨ρ, e⟩ := e
  exact run_rt e hl henv
/-! facts -/
theorem tr_bl (b : Bool) : truth (.bl b) = some b := by cases b <;> rfl
theorem tr_nil : truth (.lst []) = some false := rfl
theorem tr_cons (p : PV) (l : List PV) : truth (.lst (p :: l)) = some true := rfl
theorem isN_lst (n : Bool) (l : List PV) : gIsN n (.lst l) .non = some (.bl n) := by cases n <;> rfl
theorem isN_tup (n : Bool) (l : List PV) : gIsN n (.tup l) .non = some (.bl n) := by cases n <;> rfl
theorem isN_int (n : Bool) (i : Int) : gIsN n (.int i) .non = some (.bl n) := by cases n <;> rfl
theorem isN_str (n : Bool) (i : Str) : gIsN n (.str i) .non = some (.bl n) := by cases n <;> rfl
theorem isN_bl (n : Bool) (i : Bool) : gIsN n (.bl i) .non = some (.bl n) := by cases n <;> rfl
theorem isN_non (n : Bool) : gIsN n .non .non = some (.bl (!n)) := by cases n <;> rfl
theorem lg2 {j : Int} (h : j ≤ 1000000000000000000) (h0 : 0 < j) : j.natAbs.log2 < 9000 := by
  have h1 : j.natAbs ≠ 0 := by omega
  have h2 : j.natAbs.log2 < 60 := by rw [Nat.log2_lt h1]; omega
  omega
theorem sum_mapF {α : Type} (f : α → Int) (l : List α) : gSumN [.lst (l.map fun c => PV.int (f c))] = some (.int (l.map f).sum) := by
  simp [gSumN, ints_mapF]
theorem sum_bd {α : Type} (f : α → Int) (c : Int) : ∀ (l : List α), (∀ x ∈ l, 0 ≤ f x ∧ f x ≤ c) → 0 ≤ (l.map f).sum ∧ (l.map f).sum ≤ c * l.length
  | [], _ => by simp
  | x :: l, h => by
    obtain ⟨h1, h2⟩ := h x List.mem_cons_self
    obtain ⟨h3, h4⟩ := sum_bd f c l fun y hy => h y (List.mem_cons_of_mem _ hy)
    rw [List.map_cons, List.sum_cons, List.length_cons]
    have e : c * ((l.length + 1 : Nat) : Int) = c * (l.length : Int) + c := by
      rw [show ((l.length + 1 : Nat) : Int) = (l.length : Int) + 1 by omega, Int.mul_add, Int.mul_one]
    omega
theorem range_from (s n : Nat) : rangeP (s : Int) n = (List.range' s n).map fun i : Nat => PV.int (i : Nat) := by
  rw [List.range'_eq_map_range]
  simp [rangeP, List.map_map, Function.comp_def]
/-! loops as folds -/
theorem dLoop_foldR {σ α : Type} {tgt : DenG} {body : DenS} (R : σ → Env → Prop) (g : α → PV) (step : σ → α → σ) : ∀ (l : List α), (∀ s a ρ, R s ρ → a ∈ l → ∃ ρ1 ρ2, tgt (g a) ρ = some ρ1 ∧ (body ρ1 = .nx ρ2 ∨ body ρ1 = .ct ρ2) ∧ R (step s a) ρ2) → ∀ {s0 : σ} {ρ0 : Env}, R s0 ρ0 → ∃ ρ, dLoop tgt body (l.map g) ρ0 = .nx ρ ∧ R (l.foldl step s0) ρ
  | [], _, s0, ρ0, h0 => ⟨ρ0, rfl, h0⟩
  | a :: l, h, s0, ρ0, h0 => by
    obtain ⟨ρ1, ρ2, e1, e2, h2⟩ := h s0 a ρ0 h0 List.mem_cons_self
    obtain ⟨ρ, e3, h3⟩ := dLoop_foldR R g step l (fun s b ρ hr hb => h s b ρ hr (List.mem_cons_of_mem _ hb)) h2
    refine ⟨ρ, ?_, h3⟩
    rw [List.map_cons]
    unfold dLoop
    rw [e1]
    rcases e2 with e2 | e2
    · simp only [e2]; exact e3
    · simp only [e2]; exact e3
theorem dLoop_foldP {σ α : Type} {tgt : DenG} {body : DenS} (R : σ → Env → Prop) (g : α → PV) (step : σ → α → σ) (s0 : σ) (l : List α)
    (h : ∀ pre a post ρ, l = pre ++ a :: post → R (pre.foldl step s0) ρ → ∃ ρ1 ρ2, tgt (g a) ρ = some ρ1 ∧ (body ρ1 = .nx ρ2 ∨ body ρ1 = .ct ρ2) ∧ R (step (pre.foldl step s0) a) ρ2) {ρ0 : Env} (h0 : R s0 ρ0) : ∃ ρ, dLoop tgt body (l.map g) ρ0 = .nx ρ ∧ R (l.foldl step s0) ρ := by
  have aux : ∀ (post pre : List α) (ρ0 : Env), l = pre ++ post → R (pre.foldl step s0) ρ0 → ∃ ρ, dLoop tgt body (post.map g) ρ0 = .nx ρ ∧ R (l.foldl step s0) ρ := by
    intro post
    induction post with
    | nil => intro pre ρ0 e h1; rw [List.append_nil] at e; subst e; exact ⟨ρ0, rfl, h1⟩
    | cons a post ih =>
      intro pre ρ0 e h1
      obtain ⟨ρ1, ρ2, e1, e2, h2⟩ := h pre a post ρ0 e h1
      obtain ⟨ρ, e3, h3⟩ := ih (pre ++ [a]) ρ2 (by rw [e]; simp) (by rw [List.foldl_append]; exact h2)
      refine ⟨ρ, ?_, h3⟩
      rw [List.map_cons]
      unfold dLoop
      rw [e1]
      rcases e2 with e2 | e2
      · simp only [e2]; exact e3
      · simp only [e2]; exact e3
  exact aux l [] ρ0 rfl h0
end PL

set_option Elab.async false
set_option linter.all false
set_option maxRecDepth 100000
set_option maxHeartbeats 4000000
namespace PL
open PySem PySem.Spec L2 PySem.W
set_option autoImplicit false
/-! ### typed data -/
inductive Ty where
  | int | bl | str
  | lst (t : Ty)
  | tup (ts : List Ty)
mutual
def Is : Ty → PV → Prop
  | .int, p => ∃ i, p = .int i
  | .bl, p => ∃ b, p = .bl b
  | .str, p => ∃ x, p = .str x ∧ PyData.canLay0 (.str x) = true
  | .lst t, p => ∃ l : List PV, p = .lst l ∧ l.length ≤ 100000 ∧ ∀ q ∈ l, Is t q
  | .tup ts, p => ∃ l : List PV, p = .tup l ∧ l.length ≤ 100000 ∧ Iss ts l
def Iss : List Ty → List PV → Prop
  | [], l => l = []
  | t :: ts, l => ∃ q r, l = q :: r ∧ Is t q ∧ Iss ts r
end
mutual
def dep : Ty → Nat
  | .lst t => dep t + 1
  | .tup ts => deps ts + 1
  | _ => 1
def deps : List Ty → Nat
  | [] => 0
  | t :: ts => max (dep t) (deps ts)
end
theorem alikeAll_mem : ∀ {xs ys : List PV}, (∀ p ∈ xs, ∀ q ∈ ys, alike p.toD q.toD = true) → alikeAll (toDs xs) (toDs ys) = true
  | [], ys, _ => by cases ys <;> simp [toDs, alikeAll]
  | p :: xs, [], _ => by simp [toDs, alikeAll]
  | p :: xs, q :: ys, h => by
    simp only [toDs, alikeAll, Bool.and_eq_true]
    exact ⟨h p List.mem_cons_self q List.mem_cons_self, alikeAll_mem fun p' hp q' hq => h p' (List.mem_cons_of_mem _ hp) q' (List.mem_cons_of_mem _ hq)⟩
mutual
theorem is_alike : ∀ (t : Ty) {p q : PV}, Is t p → Is t q → alike p.toD q.toD = true
  | .int, p, q, hp, hq => by
    obtain ⟨i, rfl⟩ := hp; obtain ⟨j, rfl⟩ := hq; simp [PV.toD, alike]
  | .bl, p, q, hp, hq => by
    obtain ⟨i, rfl⟩ := hp; obtain ⟨j, rfl⟩ := hq; simp [PV.toD, alike]
  | .str, p, q, hp, hq => by
    obtain ⟨i, rfl, _⟩ := hp; obtain ⟨j, rfl, _⟩ := hq; simp [PV.toD, alike]
  | .lst t, p, q, hp, hq => by
    obtain ⟨l, rfl, _, hl⟩ := hp; obtain ⟨m, rfl, _, hm⟩ := hq
    simp only [PV.toD, alike]
    exact alikeAll_mem fun p hp q hq => is_alike t (hl p hp) (hm q hq)
  | .tup ts, p, q, hp, hq => by
    obtain ⟨l, rfl, _, hl⟩ := hp; obtain ⟨m, rfl, _, hm⟩ := hq
    simp only [PV.toD, alike]
    exact iss_alike ts hl hm
theorem iss_alike : ∀ (ts : List Ty) {l m : List PV}, Iss ts l → Iss ts m → alikeAll (toDs l) (toDs m) = true
  | [], l, m, hl, hm => by
    have hl : l = [] := hl; have hm : m = [] := hm; subst hl; subst hm; simp [toDs, alikeAll]
  | t :: ts, l, m, hl, hm => by
    obtain ⟨p, l, rfl, h1, h2⟩ := hl; obtain ⟨q, m, rfl, h3, h4⟩ := hm
    simp only [toDs, alikeAll, Bool.and_eq_true]
    exact ⟨is_alike t h1 h3, iss_alike ts h2 h4⟩
end
theorem okD_le {n m : Nat} (h : n ≤ m) : ∀ {p : PV}, okD n p = true → okD m p = true := by
  have one : ∀ (n : Nat) (p : PV), okD n p = true → okD (n + 1) p = true := by
    intro n
    induction n with
    | zero => intro p hp; simp [okD] at hp
    | succ n ih =>
      intro p hp
      have all : ∀ ps : List PV, okDs n ps = true → okDs (n + 1) ps = true := fun ps hps => okDs_iff.mpr fun q hq => ih q (okDs_iff.mp hps q hq)
      cases p with
      | lst ps => simp only [okD, Bool.and_eq_true] at hp ⊢; exact ⟨hp.1, all ps hp.2⟩
      | tup ps => simp only [okD, Bool.and_eq_true] at hp ⊢; exact ⟨hp.1, all ps hp.2⟩
      | ktup ps => simp only [okD, Bool.and_eq_true] at hp ⊢; exact ⟨hp.1, all ps hp.2⟩
      | str x => simpa [okD] using hp
      | klst ps => simp [okD] at hp
      | dic a b c => simp [okD] at hp
      | fn a => simp [okD] at hp
      | obj a b c => simp [okD] at hp
      | _ => rfl
  induction h with
  | refl => exact fun h => h
  | step _ ih => exact fun hp => one _ _ (ih hp)
mutual
theorem is_okD : ∀ (t : Ty) {p : PV}, Is t p → okD (dep t) p = true
  | .int, p, hp => by obtain ⟨i, rfl⟩ := hp; rfl
  | .bl, p, hp => by obtain ⟨i, rfl⟩ := hp; rfl
  | .str, p, hp => by obtain ⟨i, rfl, h⟩ := hp; simpa [dep, okD] using h
  | .lst t, p, hp => by
    obtain ⟨l, rfl, h1, h2⟩ := hp
    exact okD_lst h1 (okDs_iff.mpr fun q hq => is_okD t (h2 q hq))
  | .tup ts, p, hp => by
    obtain ⟨l, rfl, h1, h2⟩ := hp
    exact okD_tup h1 (iss_okD ts h2)
theorem iss_okD : ∀ (ts : List Ty) {l : List PV}, Iss ts l → okDs (deps ts) l = true
  | [], l, hl => by have hl : l = [] := hl; subst hl; rfl
  | t :: ts, l, hl => by
    obtain ⟨p, l, rfl, h1, h2⟩ := hl
    rw [okDs_iff]
    intro q hq
    rcases List.mem_cons.mp hq with rfl | hq
    · exact okD_le (by simp only [deps]; omega) (is_okD t h1)
    · exact okD_le (by simp only [deps]; omega) (okDs_iff.mp (iss_okD ts h2) q hq)
end
mutual
theorem is_pure : ∀ (t : Ty) {p : PV}, Is t p → pure? p = true
  | .int, p, hp => by obtain ⟨i, rfl⟩ := hp; rfl
  | .bl, p, hp => by obtain ⟨i, rfl⟩ := hp; rfl
  | .str, p, hp => by obtain ⟨i, rfl, h⟩ := hp; rfl
  | .lst t, p, hp => by
    obtain ⟨l, rfl, _, h2⟩ := hp
    have : ∀ l : List PV, (∀ q ∈ l, Is t q) → pures? l = true := by
      intro l
      induction l with
      | nil => intro _; rfl
      | cons x l ih => intro h; simp only [pures?, Bool.and_eq_true]; exact ⟨is_pure t (h x List.mem_cons_self), ih fun q hq => h q (List.mem_cons_of_mem _ hq)⟩
    exact this l h2
  | .tup ts, p, hp => by
    obtain ⟨l, rfl, _, h2⟩ := hp
    exact iss_pure ts h2
theorem iss_pure : ∀ (ts : List Ty) {l : List PV}, Iss ts l → pures? l = true
  | [], l, hl => by have hl : l = [] := hl; subst hl; rfl
  | t :: ts, l, hl => by
    obtain ⟨p, l, rfl, h1, h2⟩ := hl
    simp only [pures?, Bool.and_eq_true]
    exact ⟨is_pure t h1, iss_pure ts h2⟩
end
theorem is_non : ∀ (t : Ty) {p : PV}, Is t p → isNonD p.toD = false
  | .int, p, hp => by obtain ⟨i, rfl⟩ := hp; simp [PV.toD, isNonD]
  | .bl, p, hp => by obtain ⟨i, rfl⟩ := hp; simp [PV.toD, isNonD]
  | .str, p, hp => by obtain ⟨i, rfl, _⟩ := hp; simp [PV.toD, isNonD]
  | .lst t, p, hp => by obtain ⟨i, rfl, _⟩ := hp; simp [PV.toD, isNonD]
  | .tup t, p, hp => by obtain ⟨i, rfl, _⟩ := hp; simp [PV.toD, isNonD]
def tup1 : Ty → Bool
  | .tup (_ :: _) => true
  | _ => false
def sOk : Ty → Bool
  | .tup [] => false
  | _ => true
section
variable {t : Ty} (ht : dep t ≤ 30)
include ht
theorem is_shaped {p : PV} (h : Is t p) : SeqAt.shaped p.toD = true := okD_shaped (is_okD t h) (by omega)
theorem is_depth {p : PV} (h : Is t p) : p.toD.depth ≤ 32 := Nat.le_trans (okD_lay _ _ (is_okD t h)).2 (by omega)
theorem ordOk_is {p q : PV} (hp : Is t p) (hq : Is t q) : ordOk p q = true := by
  unfold ordOk
  rw [is_shaped ht hp, is_shaped ht hq, is_alike t hp hq, is_non t hp]
  rfl
theorem ltD_is {p q : PV} (hp : Is t p) (hq : Is t q) : gLtD p q = some (.bl (pvLt p q)) := by
  unfold gLtD
  rw [ordOk_is ht hp hq]
  rfl
theorem gtD_is {p q : PV} (hp : Is t p) (hq : Is t q) : gGtD p q = some (.bl (pvLt q p)) := by
  unfold gGtD
  rw [ordOk_is ht hp hq]
  rfl
theorem sortOk_is (hs : sOk t = true) {ps : List PV} (h : ∀ p ∈ ps, Is t p) (hl : ps.length ≤ 1000000) : sortOk ps = true := by
  unfold sortOk
  simp only [Bool.and_eq_true, Bool.or_eq_true, List.all_eq_true, decide_eq_true_eq]
  refine ⟨⟨⟨fun p hp => ⟨is_shaped ht (h p hp), is_depth ht (h p hp)⟩, fun p hp q hq => is_alike t (h p hp) (h q hq)⟩, ?_⟩, szn hl⟩
  cases t with
  | tup ts =>
    cases ts with
    | nil => cases hs
    | cons t ts =>
      left
      intro p hp
      obtain ⟨l, rfl, _, q, r, rfl, _⟩ := h p hp
      simp [PV.toD, toDs, isTup1]
  | int => right; intro p hp; obtain ⟨i, rfl⟩ := h p hp; simp [PV.toD, isOth]
  | bl => right; intro p hp; obtain ⟨i, rfl⟩ := h p hp; simp [PV.toD, isOth]
  | str => right; intro p hp; obtain ⟨i, rfl, _⟩ := h p hp; simp [PV.toD, isOth]
  | lst t => right; intro p hp; obtain ⟨i, rfl, _⟩ := h p hp; simp [PV.toD, isOth]
theorem sortD_is (hs : sOk t = true) {ps : List PV} (h : ∀ p ∈ ps, Is t p) (hl : ps.length ≤ 1000000) : gSortD [.lst ps] = some (.lst (ps.mergeSort pvLe)) := by
  simp [gSortD, sortOk_is ht hs h hl]
theorem bestOk_is {ps : List PV} (h : ∀ p ∈ ps, Is t p) : bestOk ps = true := by
  unfold bestOk
  simp only [Bool.and_eq_true, List.all_eq_true, decide_eq_true_eq, Bool.not_eq_true']
  exact ⟨fun p hp => ⟨⟨⟨is_shaped ht (h p hp), is_depth ht (h p hp)⟩, is_pure t (h p hp)⟩, is_non t (h p hp)⟩, fun p hp q hq => is_alike t (h p hp) (h q hq)⟩
theorem minD_is {p : PV} {ps : List PV} (h : ∀ q ∈ p :: ps, Is t q) : gMinD [.lst (p :: ps)] = some (minP p ps) := by
  simp [gMinD, bestOk_is ht h]
theorem maxD_is {p : PV} {ps : List PV} (h : ∀ q ∈ p :: ps, Is t q) : gMaxD [.lst (p :: ps)] = some (maxP p ps) := by
  simp [gMaxD, bestOk_is ht h]
end
theorem is_tup2 {t1 t2 : Ty} {p q : PV} (h1 : Is t1 p) (h2 : Is t2 q) : Is (.tup [t1, t2]) (.tup [p, q]) := ⟨_, rfl, by simp, _, _, rfl, h1, _, _, rfl, h2, rfl⟩
theorem is_int (i : Int) : Is .int (.int i) := ⟨i, rfl⟩
theorem is_lstF {α : Type} {t : Ty} {f : α → PV} {l : List α} (hl : l.length ≤ 100000) (h : ∀ x ∈ l, Is t (f x)) : Is (.lst t) (.lst (l.map f)) := ⟨_, rfl, by simpa using hl, fun q hq => by
  obtain ⟨x, hx, rfl⟩ := List.mem_map.mp hq
  exact h x hx⟩
/-! membership of whole numbers -/
theorem gIn_ints {α : Type} (neg : Bool) (a : Int) (f : α → Int) (l : List α) (hl : l.length ≤ 100000) : gIn neg (.int a) (.lst (l.map fun c => PV.int (f c))) = some (.bl (if neg then !(l.any fun c => decide (f c = a)) else l.any fun c => decide (f c = a))) := by
  have h1 : SeqAt.shaped (PV.lst (l.map fun c => PV.int (f c))).toD = true := okD_shaped (n := 2) (okD_lst (by simpa using hl) (okDs_map fun x _ => okD_int _)) (by omega)
  show (if (SeqAt.shaped (PV.int a).toD && SeqAt.shaped (PV.lst (l.map fun c => PV.int (f c))).toD) = true then _ else _) = _
  rw [h1, shaped_int]
  simp [List.any_map, Function.comp_def]
end PL

set_option Elab.async false
set_option linter.all false
set_option maxRecDepth 100000
set_option maxHeartbeats 4000000
namespace PL
open PySem PySem.Spec L2
set_option autoImplicit false
/-! ### typed dicts -/
section
variable {κ ν : Type} [DecidableEq κ] {kP : κ → PV} {vP : ν → PV}
def dA (t : Bool) (kP : κ → PV) (vP : ν → PV) (D : List (κ × ν)) : PV := .dic t (D.map fun kv => kP kv.1) (D.map fun kv => vP kv.2)
def lookA : List (κ × ν) → κ → Option ν
  | [], _ => none
  | kv :: r, g => if kv.1 = g then some kv.2 else lookA r g
def putA (D : List (κ × ν)) (g : κ) (h : ν) : List (κ × ν) := if (D.any fun kv => decide (kv.1 = g)) = true then D.map (fun kv => if kv.1 = g then (kv.1, h) else kv) else D ++ [(g, h)]
theorem look_A (hk : ∀ a b, kEq (kP a) (kP b) = decide (a = b)) (g : κ) : ∀ D : List (κ × ν), dLook (D.map fun kv => kP kv.1) (D.map fun kv => vP kv.2) (kP g) = (lookA D g).map vP
  | [] => rfl
  | kv :: r => by
    simp only [List.map_cons, dLook, lookA, hk, look_A hk g r]
    by_cases h : kv.1 = g <;> simp [h]
theorem putVs_A (hk : ∀ a b, kEq (kP a) (kP b) = decide (a = b)) (g : κ) (h : ν) : ∀ D : List (κ × ν), putVs (D.map fun kv => kP kv.1) (D.map fun kv => vP kv.2) (kP g) (vP h) = (D.map fun kv => if kv.1 = g then (kv.1, h) else kv).map fun kv => vP kv.2
  | [] => rfl
  | kv :: r => by
    simp only [List.map_cons, putVs, hk, putVs_A hk g h r]
    by_cases e : kv.1 = g <;> simp [e]
theorem put_A (hk : ∀ a b, kEq (kP a) (kP b) = decide (a = b)) (D : List (κ × ν)) (g : κ) (h : ν) : dPutQ (D.map fun kv => kP kv.1) (D.map fun kv => vP kv.2) (kP g) (vP h) = ((putA D g h).map (fun kv => kP kv.1), (putA D g h).map fun kv => vP kv.2) := by
  have e : ((D.map fun kv => kP kv.1).any fun k => kEq k (kP g)) = D.any fun kv => decide (kv.1 = g) := by
    induction D with
    | nil => rfl
    | cons kv r ih => simp only [List.map_cons, List.any_cons, hk, ih]
  unfold dPutQ putA
  rw [e]
  by_cases hz : (D.any fun kv => decide (kv.1 = g)) = true
  · rw [if_pos hz, if_pos hz, putVs_A hk]
    simp only [List.map_map]
    congr 1
    refine List.map_congr_left fun kv _ => ?_
    simp only [Function.comp]
    split <;> rfl
  · rw [if_neg hz, if_neg hz]
    simp
theorem any_look (D : List (κ × ν)) (g : κ) : (D.any fun kv => decide (kv.1 = g)) = (lookA D g).isSome := by
  induction D with
  | nil => rfl
  | cons kv r ih =>
    simp only [List.any_cons, lookA, ih]
    by_cases e : kv.1 = g <;> simp [e]
theorem lookA_put (D : List (κ × ν)) (g g' : κ) (h : ν) : lookA (putA D g h) g' = if g = g' then some h else lookA D g' := by
  unfold putA
  by_cases hz : (D.any fun kv => decide (kv.1 = g)) = true
  · rw [if_pos hz]
    induction D with
    | nil => cases hz
    | cons kv r ih =>
      simp only [List.map_cons, lookA]
      by_cases e : kv.1 = g
      · simp only [e, if_true]
        by_cases e2 : g = g'
        · simp [e2]
        · simp only [e2, if_false]
          by_cases hr : (r.any fun kv => decide (kv.1 = g)) = true
          · rw [ih hr, if_neg e2]
          · have hr2 : r.map (fun kv => if kv.1 = g then (kv.1, h) else kv) = r := by
              have : ∀ kv ∈ r, (if kv.1 = g then (kv.1, h) else kv) = kv := fun kv hk => by
                rw [if_neg]
                intro z
                exact hr (List.any_eq_true.mpr ⟨kv, hk, by simpa using z⟩)
              exact (List.map_congr_left this).trans (by simp)
            rw [hr2]
      · simp only [e, if_false]
        have hr : (r.any fun kv => decide (kv.1 = g)) = true := by simpa [e] using hz
        rw [ih hr]
        by_cases e2 : kv.1 = g'
        · subst e2
          rw [if_pos rfl, if_pos rfl, if_neg (fun z => e z.symm)]
        · rw [if_neg e2, if_neg e2]
  · rw [if_neg hz]
    induction D with
    | nil => simp [lookA]
    | cons kv r ih =>
      have e : ¬ kv.1 = g := fun z => hz (by simp [z])
      have hr : ¬ (r.any fun kv => decide (kv.1 = g)) = true := fun z => hz (by simp only [List.any_cons, z, Bool.or_true])
      simp only [List.cons_append, lookA, ih hr]
      by_cases e2 : kv.1 = g'
      · subst e2
        rw [if_pos rfl, if_pos rfl, if_neg (fun z => e z.symm)]
      · rw [if_neg e2, if_neg e2]
theorem putA_len (D : List (κ × ν)) (g : κ) (h : ν) : (putA D g h).length ≤ D.length + 1 := by
  unfold putA
  split <;> simp
theorem putA_keys (D : List (κ × ν)) (g : κ) (h : ν) : (putA D g h).map (·.1) = if g ∈ D.map (·.1) then D.map (·.1) else D.map (·.1) ++ [g] := by
  have e : (D.any fun kv => decide (kv.1 = g)) = decide (g ∈ D.map (·.1)) := by
    induction D with
    | nil => rfl
    | cons kv r ih =>
      simp only [List.any_cons, List.map_cons, List.mem_cons, ih]
      by_cases e : kv.1 = g
      · simp [e]
      · have e' : ¬ g = kv.1 := fun z => e z.symm
        simp [e, e']
  unfold putA
  rw [e]
  by_cases hm : g ∈ D.map (·.1)
  · rw [if_pos hm, if_pos (by simpa using hm), List.map_map]
    refine List.map_congr_left fun kv _ => ?_
    simp only [Function.comp]
    split <;> rfl
  · rw [if_neg hm, if_neg (by simpa using hm)]
    simp
theorem putA_nodup {D : List (κ × ν)} {g : κ} {h : ν} (n : (D.map (·.1)).Nodup) : ((putA D g h).map (·.1)).Nodup := by
  rw [putA_keys]
  split
  · exact n
  · rename_i hm
    rw [List.nodup_append]
    exact ⟨n, by simp, fun a ha b hb z => by simp only [List.mem_singleton] at hb; subst hb; subst z; exact hm ha⟩
theorem mem_putA {D : List (κ × ν)} {g : κ} {h : ν} {kv : κ × ν} (m : kv ∈ putA D g h) : kv = (g, h) ∨ kv ∈ D := by
  unfold putA at m
  split at m
  · obtain ⟨kv', h1, h2⟩ := List.mem_map.mp m
    split at h2
    · rename_i e; left; rw [← h2, e]
    · right; rw [← h2]; exact h1
  · rcases List.mem_append.mp m with h1 | h1
    · exact .inr h1
    · left; simpa using h1
theorem look_mem {D : List (κ × ν)} {g : κ} {v : ν} (h : lookA D g = some v) : (g, v) ∈ D := by
  induction D with
  | nil => cases h
  | cons kv r ih =>
    unfold lookA at h
    split at h
    · rename_i e; cases h; rw [← e]; exact List.mem_cons_self
    · exact List.mem_cons_of_mem _ (ih h)
theorem look_of_mem {D : List (κ × ν)} {kv : κ × ν} (n : (D.map (·.1)).Nodup) (h : kv ∈ D) : lookA D kv.1 = some kv.2 := by
  induction D with
  | nil => cases h
  | cons kv' r ih =>
    rw [List.map_cons, List.nodup_cons] at n
    unfold lookA
    rcases List.mem_cons.mp h with rfl | h
    · rw [if_pos rfl]
    · rw [if_neg]
      · exact ih n.2 h
      · intro e
        exact n.1 (by rw [e]; exact List.mem_map_of_mem h)
end
section
variable {κ ν : Type} [DecidableEq κ] {kP : κ → PV} {vP : ν → PV} {t : Bool}
theorem get_A (hk : ∀ a b, kEq (kP a) (kP b) = decide (a = b)) (k : κ) (hg : kGood t (kP k) = true) (D : List (κ × ν)) : gDG (dA t kP vP D) (kP k) = (lookA D k).map vP := by
  show (if kGood t (kP k) = true then dLook (D.map fun kv => kP kv.1) (D.map fun kv => vP kv.2) (kP k) else none) = _
  rw [if_pos hg, look_A hk]
theorem has_A (hk : ∀ a b, kEq (kP a) (kP b) = decide (a = b)) (k : κ) (hg : kGood t (kP k) = true) (D : List (κ × ν)) (n : Bool) : gDHas n (kP k) (dA t kP vP D) = some (.bl (if n then !(lookA D k).isSome else (lookA D k).isSome)) := by
  show (if kGood t (kP k) = true then some (PV.bl (if n then !(dLook (D.map fun kv => kP kv.1) (D.map fun kv => vP kv.2) (kP k)).isSome else (dLook (D.map fun kv => kP kv.1) (D.map fun kv => vP kv.2) (kP k)).isSome)) else none) = _
  rw [if_pos hg, look_A hk]
  simp
theorem get2_A (hk : ∀ a b, kEq (kP a) (kP b) = decide (a = b)) (k : κ) (hg : kGood t (kP k) = true) (D : List (κ × ν)) (d : PV) : gDG2 (dA t kP vP D) (kP k) d = some (((lookA D k).map vP).getD d) := by
  show (if kGood t (kP k) = true then some ((dLook (D.map fun kv => kP kv.1) (D.map fun kv => vP kv.2) (kP k)).getD d) else none) = _
  rw [if_pos hg, look_A hk]
end
/-! keys -/
def kII (g : Int × Int) : PV := .tup [.int g.1, .int g.2]
theorem kEq_II (a b : Int × Int) : kEq (kII a) (kII b) = decide (a = b) := by
  have e := kEq_keys [Sum.inl a.1, Sum.inl a.2] [Sum.inl b.1, Sum.inl b.2]
  obtain ⟨a1, a2⟩ := a
  obtain ⟨b1, b2⟩ := b
  simp only [kII]
  refine Eq.trans e ?_
  simp
theorem good_II (g : Int × Int) : kGood true (kII g) = true := rfl
theorem kEq_int (a b : Int) : kEq (.int a) (.int b) = decide (a = b) := by
  have e := kEq_key (Sum.inl a) (Sum.inl b)
  refine Eq.trans e ?_
  simp
theorem good_int (g : Int) : kGood false (.int g) = true := rfl
theorem kEq_str (a b : Str) : kEq (.str a) (.str b) = decide (a = b) := by
  have e := kEq_key (Sum.inr a) (Sum.inr b)
  refine Eq.trans e ?_
  simp
theorem kEq_comp {α β : Type} [DecidableEq α] [DecidableEq β] {kP : β → PV} (hk : ∀ a b, kEq (kP a) (kP b) = decide (a = b)) {f : α → β} (hf : ∀ a b, f a = f b → a = b) (a b : α) : kEq (kP (f a)) (kP (f b)) = decide (a = b) := by
  rw [hk]
  by_cases h : a = b
  · simp [h]
  · have : ¬ f a = f b := fun z => h (hf a b z)
    simp [h, this]
/-! few different numbers -/
theorem nodup_le {l : List Nat} {n : Nat} (h : l.Nodup) (hl : ∀ x ∈ l, x < n) : l.length ≤ n := by
  have p : l.Perm ((List.range n).filter fun x => decide (x ∈ l)) := by
    refine (List.perm_ext_iff_of_nodup h (List.nodup_range.filter _)).mpr fun x => ?_
    simp only [List.mem_filter, List.mem_range, decide_eq_true_eq]
    exact ⟨fun hx => ⟨hl x hx, hx⟩, fun hx => hx.2⟩
  rw [p.length_eq]
  have := List.length_filter_le (fun x => decide (x ∈ l)) (List.range n)
  simpa using this
theorem nodup_map_le {α : Type} {l : List α} {f : α → Nat} {n : Nat} (h : l.Nodup) (hf : ∀ x ∈ l, ∀ y ∈ l, f x = f y → x = y) (hl : ∀ x ∈ l, f x < n) : l.length ≤ n := by
  have h2 : (l.map f).Nodup := by
    clear hl
    induction l with
    | nil => simp
    | cons x l ih =>
      rw [List.nodup_cons] at h
      rw [List.map_cons, List.nodup_cons]
      refine ⟨fun z => ?_, ih h.2 fun a ha b hb => hf a (List.mem_cons_of_mem _ ha) b (List.mem_cons_of_mem _ hb)⟩
      obtain ⟨y, hy, e⟩ := List.mem_map.mp z
      have := hf x List.mem_cons_self y (List.mem_cons_of_mem _ hy) e.symm
      exact h.1 (this ▸ hy)
  have := nodup_le h2 (n := n) fun x hx => by
    obtain ⟨y, hy, rfl⟩ := List.mem_map.mp hx
    exact hl y hy
  simpa using this
/-! comprehensions over dicts -/
theorem set_back {ρ : Env} {i : Nat} {s s' : Sl} (h : ρ[i]? = some s) : (ρ.set i s').set i s = ρ := by
  rw [List.set_set]
  obtain ⟨hi, e⟩ := List.getElem?_eq_some_iff.mp h
  rw [← e]
  exact List.set_getElem_self hi
section
variable {α : Type} {i j : Nat} {ρ : Env} {T : DenB} {E : Den} {vs : List PV} {t' : Bool}
theorem dLcDk_okF (g f : α → PV) (t : α → Bool) (l : List α) (e : ρ[i]? = some (.ow (.dic t' (l.map g) vs))) (h0 : (ρ.set i .un)[j]? = some .un) (hl : l.length ≤ 1000000) (hT : ∀ c ∈ l, T (((ρ.set i .un).map Sl.lock).set j (.sh (g c))) = .ok (t c) (((ρ.set i .un).map Sl.lock).set j (.sh (g c)))) (hE : ∀ c ∈ l, t c = true → E (((ρ.set i .un).map Sl.lock).set j (.sh (g c))) = .ok (f c) (((ρ.set i .un).map Sl.lock).set j (.sh (g c)))) :
    dLcDk [j] i (gName j) T E ρ = .ok (.lst ((l.filter t).map f)) ρ := by
  have h1 : ((ρ.set i .un).map Sl.lock)[j]? = some .un := by rw [List.getElem?_map, h0]; rfl
  have h2 := List.length_filter_le t l
  rw [ap_dLcDk, e]
  show (match lcLoop [j] (gName j) T E (l.map g) (lockE [j] (ρ.set i .un)) with
    | some (ys, ρ2) => if ys.length ≤ 1000000 then Rs.ok (PV.lst ys) ((backE [j] (ρ.set i .un) ρ2).set i (.ow (.dic t' (l.map g) vs))) else .bad
    | none => .bad) = _
  rw [lcE_un h0, lc_pureF g f t l h1 (lock_noOw _) hT hE]
  simp only [List.length_map, show (l.filter t).length ≤ 1000000 by omega, if_true, back_all h0, set_back e]
theorem dLcD_okF (g f : α → PV) (t : α → Bool) (l : List α) {ρ1 : Env} (e : dVar i ρ = .ok (.dic t' (l.map g) vs) ρ1) (h0 : ρ1[j]? = some .un) (hl : l.length ≤ 1000000) (hT : ∀ c ∈ l, T ((ρ1.map Sl.lock).set j (.sh (g c))) = .ok (t c) ((ρ1.map Sl.lock).set j (.sh (g c)))) (hE : ∀ c ∈ l, t c = true → E ((ρ1.map Sl.lock).set j (.sh (g c))) = .ok (f c) ((ρ1.map Sl.lock).set j (.sh (g c)))) :
    dLcD [j] i (gName j) T E ρ = .ok (.lst ((l.filter t).map f)) ρ1 := by
  have h1 : (ρ1.map Sl.lock)[j]? = some .un := by rw [List.getElem?_map, h0]; rfl
  have h2 := List.length_filter_le t l
  unfold dLcD
  rw [e]
  show (match lcLoop [j] (gName j) T E (l.map g) (lockE [j] ρ1) with
    | some (ys, ρ2) => if ys.length ≤ 1000000 then Rs.ok (PV.lst ys) (backE [j] ρ1 ρ2) else .bad
    | none => .bad) = _
  rw [lcE_un h0, lc_pureF g f t l h1 (lock_noOw _) hT hE]
  simp only [List.length_map, show (l.filter t).length ≤ 1000000 by omega, if_true, back_all h0]
/-- a dict made of a list, whatever it holds -/
theorem dDc_ok (g kf vf : α → PV) (l : List α) {di : DenL} {ke ve : Den} {ρ1 : Env} (hdi : di ρ = .ok (l.map g) ρ1) (h0 : ρ1[j]? = some .un) (hl : l.length ≤ 50000) (hk : ∀ c ∈ l, ke ((ρ1.map Sl.lock).set j (.sh (g c))) = .ok (kf c) ((ρ1.map Sl.lock).set j (.sh (g c))) ∧ kGood true (kf c) = true) (hv : ∀ c ∈ l, ve ((ρ1.map Sl.lock).set j (.sh (g c))) = .ok (vf c) ((ρ1.map Sl.lock).set j (.sh (g c)))) :
    dDc [j] di (gName j) bYes ke ve ρ = .ok (.dic true (l.foldl (fun kv c => dPutQ kv.1 kv.2 (kf c) (vf c)) ([], [])).1 (l.foldl (fun kv c => dPutQ kv.1 kv.2 (kf c) (vf c)) ([], [])).2) ρ1 := by
  have h1 : (ρ1.map Sl.lock)[j]? = some .un := by rw [List.getElem?_map, h0]; rfl
  have put_len : ∀ (ks vs : List PV) (q e : PV), (dPutQ ks vs q e).1.length ≤ ks.length + 1 := fun ks vs q e => by unfold dPutQ; split <;> simp
  have loop : ∀ (l : List α) (ks vs : List PV), ks.length + l.length ≤ 50000 → (∀ c ∈ l, ke ((ρ1.map Sl.lock).set j (.sh (g c))) = .ok (kf c) ((ρ1.map Sl.lock).set j (.sh (g c))) ∧ kGood true (kf c) = true) → (∀ c ∈ l, ve ((ρ1.map Sl.lock).set j (.sh (g c))) = .ok (vf c) ((ρ1.map Sl.lock).set j (.sh (g c)))) →
      dcLoop [j] (gName j) bYes ke ve (l.map g) ks vs (ρ1.map Sl.lock) = some (l.foldl (fun kv c => dPutQ kv.1 kv.2 (kf c) (vf c)) (ks, vs), ρ1.map Sl.lock) := by
    intro l
    induction l with
    | nil => intro ks vs _ _ _; rfl
    | cons c l ih =>
      intro ks vs hz hk hv
      obtain ⟨k1, k2⟩ := hk c List.mem_cons_self
      have v1 := hv c List.mem_cons_self
      have hw : wipeE [j] ((ρ1.map Sl.lock).set j (.sh (g c))) = ρ1.map Sl.lock := by simp only [wipeE]; exact set_un h1
      rw [List.length_cons] at hz
      have hp := put_len ks vs (kf c) (vf c)
      have ih := ih (dPutQ ks vs (kf c) (vf c)).1 (dPutQ ks vs (kf c) (vf c)).2 (by omega) (fun c hc => hk c (List.mem_cons_of_mem _ hc)) fun c hc => hv c (List.mem_cons_of_mem _ hc)
      rw [List.map_cons, dcLoop, ap_gName]
      simp only [ap_bYes, k1, k2, v1, noOw_setS (lock_noOw ρ1), show ks.length < 100000 by omega, decide_true, Bool.and_self, if_true, hw, ih, List.foldl_cons]
  rw [ap_dDc, hdi]
  show (match dcLoop [j] (gName j) bYes ke ve (l.map g) [] [] (lockE [j] ρ1) with
    | some (kv, ρ2) => Rs.ok (PV.dic true kv.1 kv.2) (backE [j] ρ1 ρ2)
    | none => .bad) = _
  rw [lcE_un h0, loop l [] [] (by simpa using hl) hk hv]
  simp only [back_all h0]
end
/-! comprehensions that draw from a deck -/
theorem noOw_setIo {i : Nat} {p : PV} {ρ : Env} (h : noOw ρ = true) : noOw (ρ.set i (.io p)) = true := by
  induction ρ generalizing i with
  | nil => simpa using h
  | cons s r ih =>
    rw [noOw_cons, Bool.and_eq_true] at h
    cases i with
    | zero => simp [h.2]
    | succ i => rw [List.set_cons_succ, noOw_cons, h.1, ih h.2]; rfl
theorem back_io_all {ρ : Env} {i j : Nat} {p q : PV} (hi : ρ[i]? = some .un) (hj : ρ[j]? = some (.ow p)) : backE [i] ρ ((ρ.map Sl.lock).set j (.io q)) = ρ.set j (.ow q) := by
  unfold backE
  obtain ⟨hjl, ej⟩ := List.getElem?_eq_some_iff.mp hj
  obtain ⟨hil, ei⟩ := List.getElem?_eq_some_iff.mp hi
  refine List.ext_getElem (by simp) fun k h1 h2 => ?_
  rw [List.getElem_map, List.getElem_range]
  have hk : k < ρ.length := by simpa using h2
  by_cases hki : k = i
  · subst hki
    have hne : j ≠ k := fun z => by subst z; rw [ei] at ej; cases ej
    have e : [k].contains k = true := by simp
    rw [e, if_pos rfl, List.getElem_set_ne hne, List.getD_eq_getElem?_getD, hi, ei]
    rfl
  · have e : [i].contains k = false := by simp [hki]
    rw [e, if_neg Bool.false_ne_true]
    by_cases hkj : k = j
    · subst hkj
      rw [List.getElem_set_self, List.getD_eq_getElem?_getD, hj, List.getD_eq_getElem?_getD, List.getElem?_set_self (by simpa using hk)]
      rfl
    · have hne : j ≠ k := fun z => hkj z.symm
      rw [List.getElem_set_ne hne, List.getD_eq_getElem?_getD, List.getD_eq_getElem?_getD, List.getElem?_set_ne hne, List.getElem?_map, List.getElem?_eq_getElem hk]
      exact back_lock _
theorem dLc_draw {α γ : Type} {i j : Nat} {ρ ρ1 : Env} {di : DenL} {E : Den} {ds : List Int} (g : γ → PV) (f : α → PV) (P : α → Prop) (items : List γ) (hdi : di ρ = .ok (items.map g) ρ1) (hj : ρ1[j]? = some (.ow (dk ds))) (h0 : ρ1[i]? = some .un) (hl : items.length ≤ 1000000)
    (hE : ∀ c ∈ items, ∀ ds, ∃ v ds', P v ∧ E (((ρ1.map Sl.lock).set j (.io (dk ds))).set i (.sh (g c))) = .ok (f v) (((ρ1.map Sl.lock).set j (.io (dk ds'))).set i (.sh (g c)))) :
    ∃ (vs : List α) (ds' : List Int), vs.length = items.length ∧ (∀ v ∈ vs, P v) ∧ dLc [i] di (gName i) bYes E ρ = .ok (.lst (vs.map f)) (ρ1.set j (.ow (dk ds'))) := by
  have hne : j ≠ i := fun z => by subst z; rw [h0] at hj; cases hj
  have hu : ∀ ds : List Int, ((ρ1.map Sl.lock).set j (.io (dk ds)))[i]? = some .un := fun ds => by
    rw [List.getElem?_set_ne hne, List.getElem?_map, h0]; rfl
  have loop : ∀ (items : List γ) (ds : List Int), (∀ c ∈ items, ∀ ds, ∃ v ds', P v ∧ E (((ρ1.map Sl.lock).set j (.io (dk ds))).set i (.sh (g c))) = .ok (f v) (((ρ1.map Sl.lock).set j (.io (dk ds'))).set i (.sh (g c)))) →
      ∃ (vs : List α) (ds' : List Int), vs.length = items.length ∧ (∀ v ∈ vs, P v) ∧ lcLoop [i] (gName i) bYes E (items.map g) ((ρ1.map Sl.lock).set j (.io (dk ds))) = some (vs.map f, (ρ1.map Sl.lock).set j (.io (dk ds'))) := by
    intro items
    induction items with
    | nil => intro ds _; exact ⟨[], ds, rfl, fun v h => (nomatch h), rfl⟩
    | cons c items ih =>
      intro ds hE
      obtain ⟨v, d1, h1, h2⟩ := hE c List.mem_cons_self ds
      obtain ⟨vs, x2, h3, h4, h5⟩ := ih d1 fun c hc => hE c (List.mem_cons_of_mem _ hc)
      refine ⟨v :: vs, x2, by simp [h3], fun u hu => (List.mem_cons.mp hu).elim (fun z => z ▸ h1) (h4 u), ?_⟩
      have hw : wipeE [i] (((ρ1.map Sl.lock).set j (.io (dk d1))).set i (.sh (g c))) = (ρ1.map Sl.lock).set j (.io (dk d1)) := by simp only [wipeE]; exact set_un (hu d1)
      rw [List.map_cons, lcLoop, ap_gName]
      simp only [ap_bYes, h2, noOw_setS (noOw_setIo (lock_noOw ρ1)), if_true, hw, h5, List.map_cons]
  obtain ⟨vs, x2, h3, h4, h5⟩ := loop items ds hE
  refine ⟨vs, x2, h3, h4, ?_⟩
  have hs : ρ1.map Sl.lock = (ρ1.map Sl.lock).set j (.io (dk ds)) := by
    obtain ⟨hjl, ej⟩ := List.getElem?_eq_some_iff.mp hj
    have h6 : j < (ρ1.map Sl.lock).length := by simpa using hjl
    have h7 : (ρ1.map Sl.lock)[j] = .io (dk ds) := by rw [List.getElem_map, ej]; rfl
    rw [← h7, List.set_getElem_self]
  rw [ap_dLc, hdi]
  show (match lcLoop [i] (gName i) bYes E (items.map g) (lockE [i] ρ1) with
    | some (ys, ρ2) => if ys.length ≤ 1000000 then Rs.ok (PV.lst ys) (backE [i] ρ1 ρ2) else .bad
    | none => .bad) = _
  rw [lcE_un h0, hs, h5]
  simp only [List.length_map, h3, hl, if_true, back_io_all h0 hj]
end PL

set_option Elab.async false
set_option linter.all false
set_option maxRecDepth 100000
set_option maxHeartbeats 4000000
namespace PL
open PySem PySem.Spec L2
open PyProof.Rows hiding St
set_option autoImplicit false
/-! ### instances: fields -/
def lookF : List Str → List PV → Str → Option PV
  | k :: ks, v :: vs, f => if f = k then some v else lookF ks vs f
  | _, _, _ => none
theorem lookF_rep {K : PySem.W.Frag} {S : Hp} {f : Str} {z : PV} : ∀ {fs : List (Str × V)} {ps : List PV}, RepL K S ps (fs.map (·.2)) → lookF (fs.map (·.1)) ps f = some z → ∃ v, fs.lookup f = some v ∧ Rep K S z v
  | [], ps, h, e => by cases h; cases e
  | (k, x) :: fs, ps, h, e => by
    cases h with
    | cons h1 h2 =>
      rw [List.map_cons] at e
      unfold lookF at e
      by_cases hf : f = k
      · rw [if_pos hf] at e
        cases e
        exact ⟨x, by simp [List.lookup, hf], h1⟩
      · rw [if_neg hf] at e
        obtain ⟨v, h3, h4⟩ := lookF_rep h2 e
        refine ⟨v, ?_, h4⟩
        have hb : (f == k) = false := by simpa using hf
        simp [List.lookup, hb, h3]
def gFld (c f : Str) : PV → Option PV
  | .obj c' ks vs => if c' = c then lookF ks vs f else none
  | _ => none
section
variable {K : PySem.W.Frag} {mg : Str → Option Value} {W : WX} {fr : Bool}
theorem eo_fld {c f : Str} {ta : TE} {da : Den} (cl : Cls K (He.ga K c)) (na : NoAttr K (He.ga K c) f) (ha : EOk K mg W ta da) : EOk K mg W (tFld K ta f) (d1 (gFld c f) da) := fun H₀ S₀ M S σ H ρ Q ab hp =>
  ha.bind (Rl' := rV K) ab hp fun p ρ1 v S1 H1 _ a1 _ r1 hq => by
    cases e : gFld c f p with
    | none => rw [e] at hq; exact hq.elim
    | some z =>
      rw [e] at hq
      cases p with
      | obj c' ks vs =>
        have e' : (if c' = c then lookF ks vs f else none) = some z := e
        split at e'
        · rename_i hc
          subst hc
          have r1 : Rep K S1 (.obj c' ks vs) v := r1
          cases r1 with
          | obj h1 h2 =>
            obtain ⟨u, h3, h4⟩ := lookF_rep h2 e'
            exact ⟨_, _, _, _, u, rfl, a1.sub _ _ h1, cl, na, h3, hq u S1 H1 a1 h4⟩
        · cases e'
      | _ => cases e
end
section
variable {X : Cx} {W : WX} {fr : Bool} {k : Nat} {pos p apos : Pos} {e o : Expr} {es : List Expr} {da db : Den} {dl : DenL} {x c f m : Str}
theorem de_fld (cl : Cls X.K (He.ga X.K c)) (na : NoAttr X.K (He.ga X.K c) f) (h : DE X W e da) (hb : attributeBase e f X.env (eval e X.env) = eval e X.env := by rfl) : DE X W (.Attribute e f pos) (d1 (gFld c f) da) :=
  DE.of (pe_fld h hb) (eo_fld cl na canon_ok)
end
/-! ### methods -/
structure Md (P : Program) (w : World) (K : PySem.W.Frag) (mg : Str → Option Value) (base : Heap) (c m : Str) (k : Nat) (fr : Bool) (n : Nat) (F : List PV → FR) : Prop where
  ex : ∃ (f : Addr) (fd : FuncData) (ps : List Str), FnOk P w K mg base (L2.CX P w) k f fd ps (spD K mg false fr n F) ∧ Meth K (He.ga K c) m f ∧ Binds K fd ps []
  len : ∀ ps, F ps ≠ .bad → ps.length = n
  cl : Cls K (He.ga K c)
def tMethSS (C : Addr) (m : Str) (sp : Sp) (E : St → XK) (ta : TE) (t : TA) : TE := fun σ H Q => ta σ H fun x H1 => ∃ a dx fs, x = .ref a ∧ H1 a = some (.ins C dx fs) ∧ fs.lookup m = none ∧ t σ H1 fun vs H2 => sp (x :: vs) H2 Q (E σ)
section
variable {X : Cx} {CX : CXT} {k : Nat} {f C : Addr} {fd : FuncData} {ps : List Str} {sp : Sp} {E : St → XK} {x m : Str} {p pos apos : Pos} {e o : Expr} {es : List Expr} {ta : TE} {t : TA}
theorem pe_methSS {pl : Sem Bool} (he : PE X o ta) (c : Cls X.K C) (hm : Meth X.K C m f) (F : FnOk X.prog X.w X.K X.mg X.base CX k f fd ps sp) (hr : Room k X.A) (hb : Binds X.K fd ps []) (hx : ∀ σ, PassesAt CX X σ (E σ)) (ha : PA X (e :: es) t)
    (hst : starEach (e :: es) X.env = (false, eval e X.env) :: starEach es X.env := by rfl) (hpl : (backTo pos (starEach es X.env)).any (·.1) = false := by rfl)
    (ht : eval (.Call (.Attribute o m apos) (e :: es) [] pos) X.env = (do
      let ov ← eval o X.env
      standAt apos.atName
      let (f, first) ← holding [ov] (getMethod ov m pl)
      callWith pos f first (backTo pos (starEach (e :: es) X.env)) (backToKw pos (keywordEach [] X.env))) := by rfl) :
    PE X (.Call (.Attribute o m apos) (e :: es) [] pos) (tMethSS C m sp E ta t) := by
  refine ⟨fun pins s σ H Q I h => ?_⟩
  refine PySem.W.methodCall_KW (pl := pl) (thn (he.run pins s σ H _ I h) fun u s1 ⟨x, H1, I1, rx, a, dx, fs, ex, ea, l, q⟩ => ?_) ht
  subst ex
  obtain rfl : u = Value.ref a := rx
  refine getmeth_ok I1 ea c hm l ?_
  refine PySem.W.callWith_K (first := [.ref a]) (h₀ := X.base) I.ok.mod.kin hm.kp (thn (ha.run pos pins s1 σ H1 _ I1 q) fun us s2 ⟨vs, H2, I2, r, q2⟩ => ⟨I2.kIn, ?_⟩) hst hpl
  exact run_fnS (us := .ref a :: us) (vs := .ref a :: vs) F hr hb (hx σ) I2 (.cons rfl r) q2
theorem pe_methSS0 {pl : Sem Bool} (he : PE X o ta) (c : Cls X.K C) (hm : Meth X.K C m f) (F : FnOk X.prog X.w X.K X.mg X.base CX k f fd ps sp) (hr : Room k X.A) (hb : Binds X.K fd ps []) (hx : ∀ σ, PassesAt CX X σ (E σ))
    (ht : eval (.Call (.Attribute o m apos) [] [] pos) X.env = (do
      let ov ← eval o X.env
      standAt apos.atName
      let (f, first) ← holding [ov] (getMethod ov m pl)
      callWith pos f first (backTo pos (starEach [] X.env)) (backToKw pos (keywordEach [] X.env))) := by rfl) :
    PE X (.Call (.Attribute o m apos) [] [] pos) (tMethSS C m sp E ta tNil) := by
  refine ⟨fun pins s σ H Q I h => ?_⟩
  refine PySem.W.methodCall_KW (pl := pl) (thn (he.run pins s σ H _ I h) fun u s1 ⟨x, H1, I1, rx, a, dx, fs, ex, ea, l, q⟩ => ?_) ht
  subst ex
  obtain rfl : u = Value.ref a := rx
  refine getmeth_ok I1 ea c hm l ?_
  exact PySem.W.callWith_K0 (first := [.ref a]) I1.kIn hm.kp (run_fnS (us := [.ref a]) (vs := [.ref a]) F hr hb (hx σ) I1 (.cons rfl .nil) q)
end
def dMeth (c m : Str) (F : List PV → FR) (dob : Den) (da : DenL) : Den := fun ρ => (dob ρ).bind fun p ρ1 => match p with
  | .obj c' ks vs => if (decide (c' = c) && !ks.contains m) = true then (da ρ1).bind fun ps ρ2 => match F (.obj c' ks vs :: ps) with
    | .bad => .bad
    | .exc x => .exc x ρ2
    | .ok z _ => .ok z ρ2
    else .bad
  | _ => .bad
theorem lookup_none {m : Str} : ∀ {fs : List (Str × V)}, (fs.map (·.1)).contains m = false → fs.lookup m = none
  | [], _ => rfl
  | (k, x) :: fs, h => by
    rw [List.map_cons, List.contains_cons, Bool.or_eq_false_iff] at h
    have := lookup_none (fs := fs) h.2
    simp [List.lookup, h.1, this]
section
variable {K : PySem.W.Frag} {mg : Str → Option Value} {W : WX}
theorem eo_meth {c m : Str} {n : Nat} {F : List PV → FR} {to : TE} {dob : Den} {ta : TA} {da : DenL} (ho : EOk K mg W to dob) (ha : AOk K mg W ta da) (hn : ∀ ps, F ps ≠ .bad → ps.length = n) : EOk K mg W (tMethSS (He.ga K c) m (spD K mg false false n F) (WE W) to ta) (dMeth c m F dob da) := fun H₀ S₀ M S σ H ρ Q ab hp =>
  ho.bind (Rl' := rV K) ab hp fun p ρ1 v S1 H1 _ a1 _ r1 hq => by
    cases p with
    | obj c' ks vs =>
      replace hq : Post K mg W (rV K) H₀ S₀ M σ (if (decide (c' = c) && !ks.contains m) = true then (da ρ1).bind fun ps ρ2 => match F (.obj c' ks vs :: ps) with
        | .bad => .bad
        | .exc x => .exc x ρ2
        | .ok z _ => .ok z ρ2
        else .bad) Q := hq
      split at hq
      · rename_i hc
        rw [Bool.and_eq_true, decide_eq_true_eq] at hc
        obtain ⟨rfl, hm⟩ := hc
        have hm : ks.contains m = false := by simpa using hm
        have r1' : Rep K S1 (.obj c' ks vs) v := r1
        cases r1' with
        | @obj a0 dx0 _ fs0 _ h1 h2 =>
          refine ⟨_, _, _, rfl, a1.sub _ _ h1, lookup_none hm, ?_⟩
          refine ha.bind (Rl' := rV K) a1 hq fun ps ρ2 ws S2 H2 _ a2 s2 r2 hr => ?_
          have rl : RepL K S2 (.obj c' (fs0.map (·.1)) vs :: ps) (_ :: ws) := .cons (r1.up s2) r2
          cases e : F (.obj c' (fs0.map (·.1)) vs :: ps) with
          | bad => simp only [e] at hr; exact hr.elim
          | exc x =>
            simp only [e] at hr
            refine call_pre a2 rl (hn _ (by rw [e]; intro z; cases z)) ?_
            simp only [e]
            exact fun cls d S' H' st re => hr cls d S' H' (a2.step st) re
          | ok z q =>
            simp only [e] at hr
            refine call_pre a2 rl (hn _ (by rw [e]; intro z; cases z)) ?_
            simp only [e]
            exact fun v S' H' st rv => hr v S' H' (a2.step st) rv
      · exact hq.elim
    | _ => exact hq.elim
end
section
variable {X : Cx} {W : WX} {fr : Bool} {j k n : Nat} {pos p apos : Pos} {e o : Expr} {es : List Expr} {da db : Den} {dl : DenL} {x c f m : Str} {F : List PV → FR}
theorem de_meth {pl : Sem Bool} (G : Md X.prog X.w X.K X.mg X.base c m j false n F) (cx : Ctx X W k) (ho : DE X W o da) (ha : DA X W (e :: es) dl) (hj : j ≤ k := by decide)
    (hst : starEach (e :: es) X.env = (false, eval e X.env) :: starEach es X.env := by rfl) (hpl : (backTo pos (starEach es X.env)).any (·.1) = false := by rfl)
    (ht : eval (.Call (.Attribute o m apos) (e :: es) [] pos) X.env = (do
      let ov ← eval o X.env
      standAt apos.atName
      let (f, first) ← holding [ov] (getMethod ov m pl)
      callWith pos f first (backTo pos (starEach (e :: es) X.env)) (backToKw pos (keywordEach [] X.env))) := by rfl) :
    DE X W (.Call (.Attribute o m apos) (e :: es) [] pos) (dMeth c m F da dl) := by
  obtain ⟨f, fd, ps, h1, h2, h3⟩ := G.ex
  exact DE.of (pe_methSS ho G.cl h2 h1 (cx.room.mono hj) h3 (fun σ => passAt cx.tk σ) ha hst hpl ht) (eo_meth canon_ok canon_ok G.len)
theorem de_meth0 {pl : Sem Bool} (G : Md X.prog X.w X.K X.mg X.base c m j false n F) (cx : Ctx X W k) (ho : DE X W o da) (hj : j ≤ k := by decide)
    (ht : eval (.Call (.Attribute o m apos) [] [] pos) X.env = (do
      let ov ← eval o X.env
      standAt apos.atName
      let (f, first) ← holding [ov] (getMethod ov m pl)
      callWith pos f first (backTo pos (starEach [] X.env)) (backToKw pos (keywordEach [] X.env))) := by rfl) :
    DE X W (.Call (.Attribute o m apos) [] [] pos) (dMeth c m F da dNil) := by
  obtain ⟨f, fd, ps, h1, h2, h3⟩ := G.ex
  exact DE.of (pe_methSS0 ho G.cl h2 h1 (cx.room.mono hj) h3 (fun σ => passAt cx.tk σ) ht) (eo_meth canon_ok ao_nil G.len)
end
/-! ### self.f = e, while an instance is made -/
def putK (f : Str) (q : PV) : List Str → List PV → List Str × List PV
  | k :: ks, v :: vs => if k = f then (k :: ks, q :: vs) else (k :: (putK f q ks vs).1, v :: (putK f q ks vs).2)
  | _, _ => ([f], [q])
theorem putK_rep {K : PySem.W.Frag} {S : Hp} {f : Str} {q : PV} {y : V} (r : Rep K S q y) : ∀ {fs : List (Str × V)} {ps : List PV}, RepL K S ps (fs.map (·.2)) → (putK f q (fs.map (·.1)) ps).1 = (putF f y fs).map (·.1) ∧ RepL K S (putK f q (fs.map (·.1)) ps).2 ((putF f y fs).map (·.2))
  | [], ps, h => by
    cases h
    exact ⟨rfl, .cons r .nil⟩
  | (k, x) :: fs, ps, h => by
    cases h with
    | cons h1 h2 =>
      rename_i p ps
      have ih := putK_rep (f := f) r h2
      rw [List.map_cons]
      unfold putK putF
      by_cases hk : k = f
      · rw [if_pos hk, if_pos hk]
        exact ⟨by simp, .cons r h2⟩
      · rw [if_neg hk, if_neg hk]
        exact ⟨by simp [ih.1], .cons h1 ih.2⟩
def sFldSet (i : Nat) (c f : Str) (da : Den) : DenS := fun ρ => (da ρ).bindS fun q ρ1 => match ownAt ρ1 i with
  | some (s, .obj c' ks vs) => if (decide (c' = c) && decide (ks.length < 900)) = true then .nx (ρ1.set i (s.with (.obj c' (putK f q ks vs).1 (putK f q ks vs).2))) else .bad
  | _ => .bad
section
variable {K : PySem.W.Frag} {mg : Str → Option Value} {W : WX} {fr : Bool}
theorem so_fld {i : Nat} {c f : Str} {tv : TE} {da : Den} (cl : Cls K (He.ga K c)) (na : NoAttr K (He.ga K c) f) (ha : EOk K mg W tv da) : SOk K mg W fr (sFld K (tVar i) tv f) (sFldSet i c f da) := fun H₀ S₀ M S σ H ρ D ab hp =>
  ha.bindS ab hp fun q ρ1 y S1 H1 _ a1 _ r1 hp => by
    cases e0 : ownAt ρ1 i with
    | none => rw [e0] at hp; exact hp.elim
    | some sp =>
      obtain ⟨s, p⟩ := sp
      rw [e0] at hp
      obtain ⟨e1, e2⟩ := ownAt_some e0
      cases p with
      | obj c' ks vs =>
        simp only [] at hp
        split at hp
        · rename_i hc
          rw [Bool.and_eq_true, decide_eq_true_eq, decide_eq_true_eq] at hc
          obtain ⟨rfl, hl⟩ := hc
          obtain ⟨b, o, h1, h2, h3, h4, h5, h6⟩ := a1.own i s _ e1 e2
          cases o with
          | ins C dx fs =>
            obtain ⟨rfl, rfl, h7⟩ := h6
            have hk := putK_rep (f := f) r1 h7
            have ho : OwnO K S1 (.obj c' (putK f q (fs.map (·.1)) vs).1 (putK f q (fs.map (·.1)) vs).2) (.ins (He.ga K c') dx (putF f y fs)) := ⟨rfl, hk.1, hk.2⟩
            refine ⟨.ref b, h1, b, _, dx, fs, rfl, h5, cl, na, by simp at hl; omega, ?_⟩
            exact hp S1 σ _ (a1.mut e1 e2 h1 ho)
          | _ => exact h6.elim
        · exact hp.elim
      | _ => exact hp.elim
end
section
variable {X : Cx} {W : WX} {fr : Bool} {pos p pos' : Pos} {value o : Expr} {da : Den} {c f : Str}
theorem ds_fld (i : Nat) (cl : Cls X.K (He.ga X.K c)) (na : NoAttr X.K (He.ga X.K c) f) (ho : PE X o (tVar i)) (h : DE X W value da) (hs : swapsWith value (some (.Attribute o f pos')) pos.line X.env = pure false := by rfl) : DS X W fr (.Assign [.Attribute o f pos'] value pos) (sFldSet i c f da) :=
  DS.of (ps_fld ho h hs) (so_fld cl na canon_ok)
end
end PL

set_option Elab.async false
set_option linter.all false
set_option maxRecDepth 100000
set_option maxHeartbeats 4000000
namespace PL
open PySem PySem.Spec L2
open PyProof.Rows hiding St
set_option autoImplicit false
/-! ### what a class is, looked up -/
def clB (K : PySem.W.Frag) (c : Str) : Bool := PySem.W.plainGet K (He.ga K c) Str.empty && (PySem.W.hasDictIn K (He.ga K c) && (PySem.W.plainOver K (He.ga K c) && He.eqO (PySem.W.findIn K (.ref (He.ga K c)) "__setattr__") (some (some (.builtin "object.__setattr__")))))
theorem clB_ok {K : PySem.W.Frag} {c : Str} (h : clB K c = true) : Cls K (He.ga K c) := by
  unfold clB at h
  simp only [Bool.and_eq_true] at h
  obtain ⟨h1, h2, h3, h4⟩ := h
  exact ⟨h1, h2, h3, He.eqO_ok h4⟩
def naB (K : PySem.W.Frag) (c f : Str) : Bool := He.eqO (PySem.W.findIn K (.ref (He.ga K c)) f) (some none)
theorem naB_ok {K : PySem.W.Frag} {c f : Str} (h : naB K c f = true) : NoAttr K (He.ga K c) f := He.eqO_ok h
def mtB (K : PySem.W.Frag) (c m : Str) : Bool := He.eqO (PySem.W.findIn K (.ref (He.ga K c)) m) (some (some (.ref (He.ma K (He.ga K c) m)))) && (PySem.W.isFn K (.ref (He.ma K (He.ga K c) m)) && PySem.W.keepIn K (.ref (He.ma K (He.ga K c) m)))
theorem mtB_ok {K : PySem.W.Frag} {c m : Str} (h : mtB K c m = true) : Meth K (He.ga K c) m (He.ma K (He.ga K c) m) := by
  unfold mtB at h
  simp only [Bool.and_eq_true] at h
  obtain ⟨h1, h2, h3⟩ := h
  exact ⟨He.eqO_ok h1, h2, h3⟩
def mkB (K : PySem.W.Frag) (c : Str) : Bool := PySem.W.makesIn K (He.ga K c) && (He.eqO (PySem.W.findIn K (.ref (He.ga K c)) "__init__") (some (some (.ref (He.ma K (He.ga K c) "__init__")))) && (PySem.W.isFn K (.ref (He.ma K (He.ga K c) "__init__")) && PySem.W.keepIn K (.ref (He.ga K c))))
theorem mkB_ok {K : PySem.W.Frag} {c : Str} (h : mkB K c = true) : Mk K (He.ga K c) (He.ma K (He.ga K c) "__init__") := by
  unfold mkB at h
  simp only [Bool.and_eq_true] at h
  obtain ⟨h1, h2, h3, h4⟩ := h
  exact ⟨h1, He.eqO_ok h2, h3, h4⟩
/-- a method by its body -/
theorem md_okD {P : Program} {w : World} {K : PySem.W.Frag} {mg : Str → Option Value} {base : Heap} {c m qual : Str} {st : Stmt} {fd : FuncData} {N ps : List Str} {k : Nat} {fr : Bool} {d : DenS} (F : FnP K m qual st (He.ma K (He.ga K c) m) fd) (cl : Cls K (He.ga K c)) (mt : Meth K (He.ga K c) m (He.ma K (He.ga K c) m)) (S : FnScope N ps (defScope st))
    (hb : Bnd m qual st ps) (hl : ps.length ≤ N.length)
    (hbody : ∀ (cdv : Value) (A : Around) (outer : List PySem.Env) (s : Shared) (H : Hp) (E : XK), Ctx (cxOf (L2.CX P w) P w K mg base N qual (defScope st) (He.ma K (He.ga K c) m) cdv A outer s H E) (fun cls dd _ H => E cls dd H) k → Po (cxOf (L2.CX P w) P w K mg base N qual (defScope st) (He.ma K (He.ga K c) m) cdv A outer s H E) →
      DSs (cxOf (L2.CX P w) P w K mg base N qual (defScope st) (He.ma K (He.ga K c) m) cdv A outer s H E) (fun cls dd _ H => E cls dd H) fr (defBody st) d) :
    Md P w K mg base c m (k + 1) fr ps.length (runD false fr ps.length N.length d) := by
  refine ⟨⟨_, fd, ps, fn_okD F S hl hbody, mt, F.bindsN hb⟩, fun qs h => ?_, cl⟩
  unfold runD at h
  by_cases e : qs.length = ps.length
  · exact e
  · rw [if_neg e] at h
    exact absurd rfl h
/-! ### instances are made -/
structure Cn (P : Program) (w : World) (K : PySem.W.Frag) (mg : Str → Option Value) (base : Heap) (c : Str) (k : Nat) (n : Nat) (F : List PV → FR) : Prop where
  ex : ∃ (f : Addr) (fd : FuncData) (ps : List Str), FnOk P w K mg base (L2.CX P w) k f fd ps (spD K mg true false n F) ∧ Mk K (He.ga K c) f ∧ Binds K fd ps []
  len : ∀ ps, F ps ≠ .bad → ps.length = n
  mg : mg c = some (.ref (He.ga K c))
theorem cn_okD {P : Program} {w : World} {K : PySem.W.Frag} {mg : Str → Option Value} {base : Heap} {c qual : Str} {st : Stmt} {fd : FuncData} {N ps : List Str} {k : Nat} {d : DenS} (F : FnP K "__init__" qual st (He.ma K (He.ga K c) "__init__") fd) (mk : Mk K (He.ga K c) (He.ma K (He.ga K c) "__init__")) (hm : mg c = some (.ref (He.ga K c))) (S : FnScope N ps (defScope st))
    (hb : Bnd "__init__" qual st ps) (hl : ps.length ≤ N.length)
    (hbody : ∀ (cdv : Value) (A : Around) (outer : List PySem.Env) (s : Shared) (H : Hp) (E : XK), Ctx (cxOf (L2.CX P w) P w K mg base N qual (defScope st) (He.ma K (He.ga K c) "__init__") cdv A outer s H E) (fun cls dd _ H => E cls dd H) k → Po (cxOf (L2.CX P w) P w K mg base N qual (defScope st) (He.ma K (He.ga K c) "__init__") cdv A outer s H E) →
      DSs (cxOf (L2.CX P w) P w K mg base N qual (defScope st) (He.ma K (He.ga K c) "__init__") cdv A outer s H E) (fun cls dd _ H => E cls dd H) false (defBody st) d) :
    Cn P w K mg base c (k + 1) ps.length (runD true false ps.length N.length d) := by
  refine ⟨⟨_, fd, ps, fn_okD F S hl hbody, mk, F.bindsN hb⟩, fun qs h => ?_, hm⟩
  unfold runD at h
  by_cases e : qs.length = ps.length
  · exact e
  · rw [if_neg e] at h
    exact absurd rfl h
def tMakeSS (C : Addr) (sp : Sp) (E : St → XK) (t : TA) : TE := fun σ H Q => t σ H fun vs H1 => ∀ x dx, H1 x = none → H1 dx = none → dx ≠ x → sp (.ref x :: vs) (upd (upd H1 dx (.own x)) x (.ins C dx [])) (fun v H2 => v = .non ∧ Q (.ref x) H2) (E σ)
section
variable {X : Cx} {CX : CXT} {k : Nat} {f C : Addr} {fd : FuncData} {ps : List Str} {sp : Sp} {E : St → XK} {x m : Str} {p pos apos : Pos} {e o : Expr} {es : List Expr} {ta : TE} {t : TA}
theorem run_makeS {pins : List (Addr × Obj)} {σ : St} {H : Hp} {s : Shared} {Q : VK} {us : List Value} {vs : List V} (M : Mk X.K C f) (F : FnOk X.prog X.w X.K X.mg X.base CX k f fd ps sp) (hr : Room (k + 1) X.A) (hb : Binds X.K fd ps [])
    (hx : PassesAt CX X σ (E σ)) (I : Inv X pins σ H s) (r : Vals vs us)
    (h : ∀ x dx, H x = none → H dx = none → dx ≠ x → sp (.ref x :: vs) (upd (upd H dx (.own x)) x (.ins C dx [])) (fun v H2 => v = .non ∧ Q (.ref x) H2) (E σ)) :
    wpAny (model X.prog X.w) X.A (call (.ref C) us) (EP X pins σ Q) X.xe s := by
  have hq := h (s.heap.objs.size + 1) s.heap.objs.size (I.hok.fresh (Nat.le_succ _)) (I.hok.fresh (Nat.le_refl _)) (Nat.ne_of_lt (Nat.lt_succ_self _))
  have I2 := Inv.made (C := C) I
  have r2 : Vals (V.ref (s.heap.objs.size + 1) :: vs) (Value.ref (s.heap.objs.size + 1) :: us) := .cons rfl r
  have hl : (Value.ref (s.heap.objs.size + 1) :: us).length = ps.length := by
    have e := r2.length
    rw [F.len _ _ _ _ hq] at e
    exact e.symm
  have hb' := hb _ (Value.ref (s.heap.objs.size + 1) :: us) I2.kIn (by rw [List.append_nil]; exact hl)
  rw [List.append_nil] at hb'
  refine wpAny_call (make_map (f := f) I.kIn M.makes M.init (beq_iff_eq.mp M.fn) (codeAny_mono (F.run _ X.stack _ _ ⟨Value.ref (s.heap.objs.size + 1) :: us, []⟩ (Value.ref (s.heap.objs.size + 1) :: us) _ _ (E σ) (hr.make C us [])
    (I2.env0.make C us []) hb' r2 hq) fun r s' hq' => ?_))
  cases r with
  | error e => exact hx pins _ _ e s' I2 hq'
  | ok fl =>
    cases fl with
    | ret u =>
      obtain ⟨v, H', I3, rv, ev, q3⟩ := I2.after hq'
      subst ev
      exact ⟨rv, ⟨V.ref (s.heap.objs.size + 1), H', I3, rfl, q3⟩⟩
    | next => exact False.elim hq'
    | brk => exact False.elim hq'
    | cont => exact False.elim hq'
theorem pe_makeSS (M : Mk X.K C f) (F : FnOk X.prog X.w X.K X.mg X.base CX k f fd ps sp) (hr : Room (k + 1) X.A) (hg : Gl X x) (hm : X.mg x = some (.ref C)) (hb : Binds X.K fd ps []) (hx : ∀ σ, PassesAt CX X σ (E σ))
    (ha : PA X (e :: es) t) (hdb : (x == ("__debug__" : Str)) = false := by decide) (he : starEach (e :: es) X.env = (false, eval e X.env) :: starEach es X.env := by rfl) (hpl : (backTo pos (starEach es X.env)).any (·.1) = false := by rfl) :
    PE X (.Call (.Name x p) (e :: es) [] pos) (tMakeSS C sp E t) := by
  refine ⟨fun pins s σ H Q I h => ?_⟩
  refine wpAny_Call_Name_kw (ld_glob I hg hm ?_ hdb)
  refine PySem.W.callWith_K (h₀ := X.base) I.ok.mod.kin M.kp (thn (ha.run pos pins s σ H _ I h) fun us s1 ⟨vs, H1, I1, r, q⟩ => ⟨I1.kIn, ?_⟩) he hpl
  exact run_makeS M F hr hb (hx σ) I1 r q
end
def dMake (c : Str) (F : List PV → FR) (da : DenL) : Den := fun ρ => (da ρ).bind fun ps ρ1 => match F (.obj c [] [] :: ps) with
  | .ok .non (.obj c' ks vs) => .ok (.obj c' ks vs) ρ1
  | .exc x => .exc x ρ1
  | _ => .bad
section
variable {K : PySem.W.Frag} {mg : Str → Option Value} {W : WX} {H₀ S₀ : Hp} {M : Addr → Prop} {S H : Hp} {σ : St} {ρ : Env}
/-- one slot more, with what is fresh -/
theorem Abs.push {p : PV} {v : V} (a : Abs K H₀ S₀ M S σ H ρ) (f : Fr K H₀ S H σ ρ p v) : Abs K H₀ S₀ M S (σ ++ [some v]) H (ρ ++ [.ow p]) := by
  obtain ⟨b, o, rfl, f1, f2, f3, f4, f5⟩ := f
  have cs : ∀ {i : Nat} {s : Sl}, (ρ ++ [.ow p])[i]? = some s → (i < ρ.length ∧ ρ[i]? = some s ∧ (σ ++ [some (V.ref b)])[i]? = σ[i]?) ∨ (i = ρ.length ∧ s = .ow p ∧ (σ ++ [some (V.ref b)])[i]? = some (some (.ref b))) := fun {i s} e => by
    rcases Nat.lt_or_ge i ρ.length with h | h
    · rw [List.getElem?_append_left h] at e
      exact .inl ⟨h, e, List.getElem?_append_left (a.len ▸ h)⟩
    · rw [List.getElem?_append_right h] at e
      have hi : i = ρ.length := by
        rcases Nat.lt_or_ge (i - ρ.length) 1 with h2 | h2
        · omega
        · rw [List.getElem?_eq_none (by simpa using h2)] at e; cases e
      subst hi
      simp at e
      refine .inr ⟨rfl, e.symm, ?_⟩
      rw [a.len]
      simp
  refine ⟨by simp [a.len], a.sub, a.base, a.grow, a.keep, a.there, fun i q e => ?_, fun i s q e es => ?_, fun i j s t q r c e es e' et z z' => ?_⟩
  · rcases cs e with ⟨_, h2, h3⟩ | ⟨_, h2, _⟩
    · rw [h3]; exact a.sh i q h2
    · cases h2
  · rcases cs e with ⟨_, h2, h3⟩ | ⟨_, h2, h3⟩
    · rw [h3]; exact a.own i s q h2 es
    · subst h2; cases es
      exact ⟨b, o, h3, fun _ => f1, (fun z => nomatch z), f2, f3, f4⟩
  · rcases cs e with ⟨_, h2, h3⟩ | ⟨h1, h2, h3⟩
    · rcases cs e' with ⟨_, k2, k3⟩ | ⟨_, k2, k3⟩
      · rw [h3] at z; rw [k3] at z'
        exact a.dis i j s t q r c h2 es k2 et z z'
      · rw [k3] at z'; cases z'
        rw [h3] at z
        exact absurd z (f5 i _ _ h2 es)
    · rcases cs e' with ⟨_, k2, k3⟩ | ⟨k1, _, _⟩
      · rw [h3] at z; cases z
        rw [k3] at z'
        exact absurd z' (f5 j _ _ k2 et)
      · rw [h1, k1]
theorem Abs.pop_ {p : PV} {v : V} (a : Abs K H₀ S₀ M S (σ ++ [some v]) H (ρ ++ [.ow p])) (hl : ρ.length = σ.length) : Abs K H₀ S₀ M S σ H ρ ∧ Fr K H₀ S H σ ρ p v := by
  have g : ∀ {i : Nat} {s : Sl}, ρ[i]? = some s → (ρ ++ [.ow p])[i]? = some s ∧ (σ ++ [some v])[i]? = σ[i]? := fun {i s} e => by
    have hi := (List.getElem?_eq_some_iff.mp e).1
    exact ⟨by rw [List.getElem?_append_left hi]; exact e, List.getElem?_append_left (hl ▸ hi)⟩
  have e0 : (ρ ++ [.ow p])[ρ.length]? = some (.ow p) := by simp
  have s0 : (σ ++ [some v])[ρ.length]? = some (some v) := by rw [hl]; simp
  obtain ⟨b, o, h1, h2, h3, h4, h5, h6⟩ := a.own ρ.length (.ow p) p e0 rfl
  rw [s0] at h1
  cases h1
  refine ⟨a.forget hl fun i s e _ => ⟨(g e).1, (g e).2.symm⟩, b, o, rfl, h2 rfl, h4, h5, h6, fun j s q ej es z => ?_⟩
  have hj := (List.getElem?_eq_some_iff.mp ej).1
  have := a.dis j ρ.length s (.ow p) q p b (g ej).1 es e0 rfl (by rw [(g ej).2]; exact z) s0
  omega
theorem fo_make {c : Str} {n : Nat} {F : List PV → FR} {ta : TA} {da : DenL} (ha : AOk K mg W ta da) (hn : ∀ ps, F ps ≠ .bad → ps.length = n) : FOk K mg W (tMakeSS (He.ga K c) (spD K mg true false n F) (WE W) ta) (dMake c F da) := fun H₀ S₀ M S σ H ρ Q ab hp =>
  ha.bind (Rl' := rF K) ab hp fun ps ρ1 vs S1 H1 _ a1 _ r hq => by
    intro x dx n1 n2 hne
    have b1 := a1.step (Step.hid (p := dx) (o := .own x) a1.sub n2)
    have n3 : (upd H1 dx (.own x)) x = none := by rw [upd_ne (fun z => hne z.symm)]; exact n1
    obtain ⟨b2, fr⟩ := b1.fresh (p := .obj c [] []) n3 (o := .ins (He.ga K c) dx []) ⟨rfl, rfl, .nil⟩
    have b3 := b2.push fr
    have e0 : (ρ1 ++ [Sl.ow (.obj c [] [])])[ρ1.length]? = some (.ow (.obj c [] [])) := by simp
    have s0 : (σ ++ [some (V.ref x)])[ρ1.length]? = some (some (.ref x)) := by rw [a1.len]; simp
    have back : ∀ {S' H' : Hp} {s : Sl}, Abs K H₀ S₀ M S' (σ ++ [some (V.ref x)]) H' ((ρ1 ++ [Sl.ow (.obj c [] [])]).set ρ1.length s) → Abs K H₀ S₀ M S' (σ ++ [some (V.ref x)]) H' (ρ1 ++ [s]) := fun {S' H' s} z => by
      have e : (ρ1 ++ [Sl.ow (.obj c [] [])]).set ρ1.length s = ρ1 ++ [s] := by
        rw [List.set_append_right _ _ (Nat.le_refl _)]
        simp
      rw [e] at z
      exact z
    refine callIo_pre b3 e0 rfl s0 r (p := .obj c [] []) ?_ ?_
    · have h1 : F (.obj c [] [] :: ps) ≠ .bad := by intro z; simp only [z] at hq; exact hq
      simpa using hn _ h1
    · cases e : F (.obj c [] [] :: ps) with
      | bad => simp only [e] at hq; exact hq
      | exc xx =>
        simp only [e] at hq ⊢
        intro cls d S' H' a' re
        have a'' := back a'
        refine hq cls d S' H' (a''.forget a1.len fun i s ei _ => ?_) re
        have hi := (List.getElem?_eq_some_iff.mp ei).1
        exact ⟨by rw [List.getElem?_append_left hi]; exact ei, (List.getElem?_append_left (a1.len ▸ hi)).symm⟩
      | ok z q =>
        simp only [e] at hq ⊢
        cases z with
        | non =>
          cases q with
          | obj c' ks ws =>
            intro v S' H' a' rv
            have rv : Rep K S' .non v := by simpa [RetRep] using rv
            cases rv
            obtain ⟨a2, f2⟩ := (back a').pop_ a1.len
            exact ⟨rfl, hq _ S' H' a2 f2⟩
          | _ => exact hq.elim
        | _ => exact hq.elim
end
section
variable {X : Cx} {W : WX} {fr : Bool} {j k n : Nat} {pos p apos : Pos} {e o : Expr} {es : List Expr} {da db : Den} {dl : DenL} {c f m : Str} {F : List PV → FR}
theorem df_make (G : Cn X.prog X.w X.K X.mg X.base c j n F) (cx : Ctx X W k) (ha : DA X W (e :: es) dl) (hj : j + 1 ≤ k := by decide) (hg : Gl X c := by rfl) (hdb : (c == ("__debug__" : Str)) = false := by decide)
    (he : starEach (e :: es) X.env = (false, eval e X.env) :: starEach es X.env := by rfl) (hpl : (backTo pos (starEach es X.env)).any (·.1) = false := by rfl) : DF X W (.Call (.Name c p) (e :: es) [] pos) (dMake c F dl) := by
  obtain ⟨f, fd, ps, h1, h2, h3⟩ := G.ex
  exact DF.of (pe_makeSS h2 h1 (cx.room.mono hj) hg G.mg h3 (fun σ => passAt cx.tk σ) ha hdb he hpl) (fo_make canon_ok G.len)
end
/-! ### reading -/
@[simp] theorem ap_dMeth {c m : Str} {F : List PV → FR} {dob : Den} {da : DenL} {ρ : Env} : dMeth c m F dob da ρ = (dob ρ).bind fun p ρ1 => match p with
  | .obj c' ks vs => if (decide (c' = c) && !ks.contains m) = true then (da ρ1).bind fun ps ρ2 => match F (.obj c' ks vs :: ps) with
    | .bad => .bad
    | .exc x => .exc x ρ2
    | .ok z _ => .ok z ρ2
    else .bad
  | _ => .bad := id rfl
@[simp] theorem ap_dMake {c : Str} {F : List PV → FR} {da : DenL} {ρ : Env} : dMake c F da ρ = (da ρ).bind fun ps ρ1 => match F (.obj c [] [] :: ps) with
  | .ok .non (.obj c' ks vs) => .ok (.obj c' ks vs) ρ1
  | .exc x => .exc x ρ1
  | _ => .bad := id rfl
@[simp] theorem ap_sFldSet {i : Nat} {c f : Str} {da : Den} {ρ : Env} : sFldSet i c f da ρ = (da ρ).bindS fun q ρ1 => match ownAt ρ1 i with
  | some (s, .obj c' ks vs) => if (decide (c' = c) && decide (ks.length < 900)) = true then .nx (ρ1.set i (s.with (.obj c' (putK f q ks vs).1 (putK f q ks vs).2))) else .bad
  | _ => .bad := id rfl
end PL

set_option Elab.async false
set_option linter.all false
set_option maxRecDepth 100000
set_option maxHeartbeats 4000000
namespace PL
open PySem PySem.Spec L2
open PyProof.Rows hiding St
set_option autoImplicit false
/-! ### a def by another name -/
theorem fd_okA {P : Program} {w : World} {K : PySem.W.Frag} {mg : Str → Option Value} {base : Heap} {x x0 qual : Str} {st : Stmt} {f : Addr} {fd : FuncData} {N ps : List Str} {k : Nat} {io fr : Bool} {d : DenS} (F : FnP K x0 qual st f fd) (hm : mg x = some (.ref f)) (S : FnScope N ps (defScope st))
    (hb : Bnd x0 qual st ps) (hl : ps.length ≤ N.length)
    (hbody : ∀ (cdv : Value) (A : Around) (outer : List PySem.Env) (s : Shared) (H : Hp) (E : XK), Ctx (cxOf (L2.CX P w) P w K mg base N qual (defScope st) f cdv A outer s H E) (fun cls dd _ H => E cls dd H) k → Po (cxOf (L2.CX P w) P w K mg base N qual (defScope st) f cdv A outer s H E) →
      DSs (cxOf (L2.CX P w) P w K mg base N qual (defScope st) f cdv A outer s H E) (fun cls dd _ H => E cls dd H) fr (defBody st) d) :
    Fd P w K mg base x (k + 1) io fr ps.length (runD io fr ps.length N.length d) := by
  refine ⟨⟨f, fd, ps, fn_okD F S hl hbody, hm, F.kp, F.bindsN hb⟩, fun qs h => ?_⟩
  unfold runD at h
  by_cases e : qs.length = ps.length
  · exact e
  · rw [if_neg e] at h
    exact absurd rfl h
/-- a measure: how far a number is from the length of a list -/
def muD (i j : Nat) (ρ : Env) : Nat := match (ρ[i]? : Option Sl), (ρ[j]? : Option Sl) with
  | some (.sh (.lst l)), some (.sh (.int n)) => ((l.length : Int) - n).toNat + 2
  | _, _ => 0
section
variable {X : Cx} {W : WX} {fr : Bool} {k : Nat} {pos p p2 p3 apos cpos np : Pos} {e a b f : Expr} {es : List Expr} {da db dc : Den} {dl : DenL} {x : Str} {K : PySem.W.Frag}
/-! ### the sum of a list or a tuple -/
def rSumU (K : PySem.W.Frag) : List V → Hp → VK → Prop := fun vs H Q => ∃ (a : Addr) (ns : List Int), vs = [V.ref a] ∧ (SqL K H a (ns.map V.int) ∨ SqT K H a (ns.map V.int)) ∧ Q (.int ns.sum) H
theorem cr_sumU (hc : X.calm = true) : CallR X (.builtin "sum") (rSumU X.K) := by
  intro pins s σ H vs us Q I r h
  obtain ⟨a, ns, rfl, hs, q⟩ := h
  rcases hs with hs | hs
  · exact cr_sum hc pins s σ H _ us Q I r ⟨a, ns, rfl, hs, q⟩
  · obtain ⟨its, rv, hl, _⟩ := I.tuple hs
    rw [Vals.ref1 r]
    have hi := rv.ints
    obtain ⟨xs, e⟩ := hi.allInts.items
    have hn : numsOf (intItems xs).toList = ns := by rw [← e]; exact hi.numsOf
    rw [nums_intItems] at hn
    rw [e] at hl
    refine PySem.W.ktm_sumG (xs := xs) (I.ok.hd hc) ?_ fun h' tk t' hk => ?_
    · obtain ⟨o, h1, h2, n, h3⟩ := hl
      exact ⟨o, h1, h2, n, h3⟩
    · rw [preSum_eq, List.take_of_length_le (by simp), hn]
      exact ⟨.int _, H, I.kept hk, ⟨_, rfl⟩, q⟩
def gSumU : List PV → Option PV
  | [.lst ps] => (ints? ps).map fun ns => .int ns.sum
  | [.tup ps] => (ints? ps).map fun ns => .int ns.sum
  | _ => none
theorem vn_sumU : VN K (rSumU K) gSumU := by
  intro S H xs ps z Q s rx e k
  unfold gSumU at e
  split at e
  · rename_i ps
    cases hi : ints? ps with
    | none => rw [hi] at e; cases e
    | some ns =>
      rw [hi] at e
      cases e
      cases rx with
      | cons r1 r2 =>
        cases r2
        cases r1 with
        | lst h1 h2 =>
          have := ints_rep hi h2
          subst this
          exact ⟨_, ns, rfl, .inl (.inl (.inl (s _ _ h1))), k _ S H (Step.refl s) (.int _)⟩
  · rename_i ps
    cases hi : ints? ps with
    | none => rw [hi] at e; cases e
    | some ns =>
      rw [hi] at e
      cases e
      cases rx with
      | cons r1 r2 =>
        cases r2
        cases r1 with
        | tup h1 h2 =>
          have := ints_rep hi h2
          subst this
          exact ⟨_, ns, rfl, .inr (.inl (.inl (s _ _ h1))), k _ S H (Step.refl s) (.int _)⟩
  · cases e
theorem de_sumU (c : Ctx X W k) (B : Bi X.mg) (ha : DA X W (e :: es) dl) (hg : Gl X "sum" := by rfl) (he : starEach (e :: es) X.env = (false, eval e X.env) :: starEach es X.env := by rfl) (hpl : (backTo pos (starEach es X.env)).any (·.1) = false := by rfl) :
    DE X W (.Call (.Name "sum" p) (e :: es) [] pos) (dN gSumU dl) := de_b (cr_sumU c.calm) vn_sumU B.sum (by decide +kernel) ha hg (by decide) (by decide) he hpl
/-! ### the least of three -/
def gMin3 : List PV → Option PV
  | [.int i, .int j, .int l] => some (.int (if l < (if j < i then j else i) then l else (if j < i then j else i)))
  | _ => none
theorem vn_min3 : VN K (rNuC3 nuMin3) gMin3 := by
  intro S H xs ps z Q s rx e k
  unfold gMin3 at e
  split at e
  · rename_i i j l
    cases rx with
    | cons r1 r2 =>
      cases r2 with
      | cons r3 r4 =>
        cases r4 with
        | cons r5 r6 =>
          cases r6; cases r1; cases r3; cases r5; cases e
          refine ⟨_, _, _, _, rfl, ?_, k _ S H (Step.refl s) (.int _)⟩
          by_cases h1 : j < i
          · by_cases h2 : l < j <;> simp [nuMin3, nuMin2, nuLt, nuCB, h1, h2]
          · by_cases h2 : l < i <;> simp [nuMin3, nuMin2, nuLt, nuCB, h1, h2]
  · cases e
theorem de_min3 (c : Ctx X W k) (B : Bi X.mg) (ha : DA X W (e :: es) dl) (hg : Gl X "min" := by rfl) (he : starEach (e :: es) X.env = (false, eval e X.env) :: starEach es X.env := by rfl) (hpl : (backTo pos (starEach es X.env)).any (·.1) = false := by rfl) :
    DE X W (.Call (.Name "min" p) (e :: es) [] pos) (dN gMin3 dl) := de_b (call_min3Nu c.calm) vn_min3 B.min (by decide +kernel) ha hg (by decide) (by decide) he hpl
/-! ### sorted of a dict with whole numbers as keys -/
def keyInts : List PV → Option (List Int) := ints?
def dSortDK (da : Den) : Den := fun ρ => (da ρ).bind fun p ρ1 => match p with
  | .dic false ks _ => (match ints? ks with
    | some ns => if ns.length < 64 then .ok (.lst ((sortI ns).map .int)) ρ1 else .bad
    | none => .bad)
  | _ => .bad
theorem keys_ints : ∀ {kvs : List (Key × V)} {ns : List Int}, ints? (kvs.map fun p => keyPV p.1) = some ns → kvs.map (·.1) = ns.map Sum.inl
  | [], ns, h => by cases h; rfl
  | (k, v) :: kvs, ns, h => by
    cases k with
    | inl i =>
      have h : (ints? (.int i :: kvs.map fun p => keyPV p.1)) = some ns := h
      cases e : ints? (kvs.map fun p => keyPV p.1) with
      | none => simp [ints?, e] at h
      | some ms =>
        have h2 : some (i :: ms) = some ns := by rw [← h]; simp [ints?, e]
        cases h2
        show (Sum.inl i) :: kvs.map (·.1) = _
        rw [keys_ints e]
        rfl
    | inr z => simp [ints?, keyPV] at h
theorem df_sortDK (c : Ctx X W k) (B : Bi X.mg) (ha : DE X W a da) (hg : Gl X "sorted" := by rfl) (na : starEach [a] X.env = (false, eval a X.env) :: starEach [] X.env := by rfl) (hpl : (backTo pos (starEach [] X.env)).any (·.1) = false := by rfl) :
    DF X W (.Call (.Name "sorted" p) [a] [] pos) (dSortDK da) :=
  DF.of (pe_callB (call_sortedDI c.calm) hg B.sorted (by decide +kernel) (pa_cons ha pa_nil na) (by decide) (by decide) na hpl) fun H₀ S₀ M S σ H ρ Q ab hp =>
    canon_ok.bind (Rl := rV X.K) (Rl' := rF X.K) ab hp fun q ρ1 v S1 H1 _ a1 _ r1 hq => by
      have r1 : Rep X.K S1 q v := r1
      cases r1 with
      | @dK d kvs ps h1 h2 =>
        replace hq : Post X.K X.mg W (rF X.K) H₀ S₀ M σ (match ints? (kvs.map fun p => keyPV p.1) with
          | some ns => if ns.length < 64 then Rs.ok (PV.lst ((sortI ns).map .int)) ρ1 else .bad
          | none => .bad) Q := hq
        cases hi : ints? (kvs.map fun p => keyPV p.1) with
        | none => simp only [hi] at hq; exact hq.elim
        | some ns =>
          simp only [hi] at hq
          split at hq
          · rename_i hz
            refine ⟨d, kvs, ns, rfl, h1.same a1.sub, keys_ints hi, hz, fun ys b hp1 hs n => ?_⟩
            have e : ys = sortI ns := sort_uniq (hp1.trans (sortI_perm ns).symm) hs (sortI_le ns)
            subst e
            exact hq _ S1 _ (a1.fresh n (p := .lst _) (o := .lst _) (repInts _)).1 (a1.fresh n (p := .lst _) (o := .lst _) (repInts _)).2
          · exact hq.elim
      | _ => exact hq.elim
@[simp] theorem ap_dSortDK {ρ : Env} : dSortDK da ρ = (da ρ).bind fun p ρ1 => match p with
  | .dic false ks _ => (match ints? ks with
    | some ns => if ns.length < 64 then .ok (.lst ((sortI ns).map .int)) ρ1 else .bad
    | none => .bad)
  | _ => .bad := id rfl
/-! ### sorted of a dict that stays owned, with tuples as keys -/
def dSortDTv (i : Nat) : Den := fun ρ => match slot ρ i with
  | some (.dic true ks _) => if sortOk ks then .ok (.lst (ks.mergeSort pvLe)) ρ else .bad
  | _ => .bad
theorem Abs.rdT {mg : Str → Option Value} {H₀ S₀ : Hp} {M : Addr → Prop} {S H : Hp} {σ : L2.St} {ρ : Env} {i : Nat} {ks ps : List PV} (a : Abs K H₀ S₀ M S σ H ρ) (e : slot ρ i = some (.dic true ks ps)) :
    ∃ b kvs, σ[i]? = some (some (.ref b)) ∧ Rd H b (.dT kvs) ∧ ks = kvs.map fun p => .tup (p.1.map keyPV) := by
  obtain ⟨v, hv, h⟩ := a.lookL e
  rcases h with h | ⟨b, o, rfl, h1, h2, h3⟩
  · cases h with
    | @dT d kvs ps h4 h5 => exact ⟨d, kvs, hv, h4.same a.sub, rfl⟩
  · cases o with
    | dT kvs => exact ⟨b, kvs, hv, .inl h2, h3.1⟩
    | _ => exact h3.elim
theorem df_sortDTv (i : Nat) (c : Ctx X W k) (B : Bi X.mg) (hv : PE X (.Name x p2) (tVar i)) (hg : Gl X "sorted" := by rfl) (na : starEach [.Name x p2] X.env = (false, eval (.Name x p2) X.env) :: starEach [] X.env := by rfl) (hpl : (backTo pos (starEach [] X.env)).any (·.1) = false := by rfl) :
    DF X W (.Call (.Name "sorted" p) [.Name x p2] [] pos) (dSortDTv i) :=
  DF.of (pe_callB (cr_sortDT c.calm c.hu) hg B.sorted (by decide +kernel) (pa_cons hv pa_nil na) (by decide) (by decide) na hpl) fun H₀ S₀ M S σ H ρ Q ab hp => by
    unfold dSortDTv at hp
    cases e0 : slot ρ i with
    | none => rw [e0] at hp; exact hp.elim
    | some q =>
      rw [e0] at hp
      cases q with
      | dic t ks ps =>
        cases t with
        | false => exact hp.elim
        | true =>
          obtain ⟨b, kvs, h1, h2, rfl⟩ := ab.rdT (mg := X.mg) e0
          simp only [] at hp
          split at hp
          · rename_i hz
            refine ⟨.ref b, h1, b, kvs, rfl, h2, hz, fun zs b z1 z2 n => ?_⟩
            obtain ⟨S2, st, hr⟩ := keys_step (K := X.K) ab.sub z2
            have a2 := ab.step st
            have em : (kvs.map fun p => PV.tup (p.1.map keyPV)).mergeSort pvLe = (zs.mergeSort ordZ).map (·.2) := by
              rw [← z1]
              exact (List.map_mergeSort (r := ordZ) (s := pvLe) (f := fun z : V × PV => z.2) (l := zs) fun a _ b _ => rfl).symm
            rw [em] at hp
            have rl : RepL X.K S2 ((zs.mergeSort ordZ).map (·.2)) ((zs.mergeSort ordZ).map (·.1)) := repL_unzip fun z hz => hr z ((List.mergeSort_perm zs ordZ).mem_iff.mp hz)
            exact hp _ S2 _ (a2.fresh n (p := .lst _) (o := .lst _) rl).1 (a2.fresh n (p := .lst _) (o := .lst _) rl).2
          · exact hp.elim
      | _ => exact hp.elim
@[simp] theorem ap_dSortDTv {i : Nat} {ρ : Env} : dSortDTv i ρ = match slot ρ i with
  | some (.dic true ks _) => if sortOk ks then .ok (.lst (ks.mergeSort pvLe)) ρ else .bad
  | _ => .bad := id rfl
/-! ### d.get(k) -/
def dGet1v (i : Nat) (db : Den) : Den := fun ρ => match slot ρ i with
  | some (.dic _ _ _) => (db ρ).bind fun q ρ2 => match slot ρ2 i with
    | some p => opt (gDG2 p q .non) ρ2
    | none => .bad
  | _ => .bad
theorem eo_dget1v {mg : Str → Option Value} {i : Nat} {ty : TE} (hb : EOk K mg W ty db) : EOk K mg W (tDGet1 (tVar i) ty) (dGet1v i db) := fun H₀ S₀ M S σ H ρ Q ab hp => by
  unfold dGet1v at hp
  cases e0 : slot ρ i with
  | none => rw [e0] at hp; exact hp.elim
  | some p0 =>
    rw [e0] at hp
    cases p0 with
    | dic t0 ks0 vs0 =>
      obtain ⟨b, hv, h0⟩ := ab.dict e0
      refine ⟨.ref b, hv, b, rfl, h0.isD, hb.bind (Rl' := rV K) ab hp fun q ρ1 y S1 H1 _ a1 _ r1 hq => ?_⟩
      cases e1 : slot ρ1 i with
      | none => rw [e1] at hq; exact hq.elim
      | some p =>
        rw [e1] at hq
        cases p with
        | dic t ks vs =>
          obtain ⟨b', h1, h2⟩ := a1.dict e1
          rw [hv] at h1
          cases h1
          by_cases hk : kGood t q = true
          · simp only [gDG2, if_pos hk] at hq
            cases e : dLook ks vs q with
            | none =>
              rw [e] at hq
              exact ⟨none, h2.not a1.sub r1 hk e, hq .non S1 H1 a1 .non⟩
            | some p' =>
              rw [e] at hq
              obtain ⟨v, h3, h4⟩ := h2.got a1.sub r1 hk e
              exact ⟨some v, h3, hq v S1 H1 a1 h4⟩
          · simp only [gDG2, if_neg hk] at hq; exact hq.elim
        | _ => exact hq.elim
    | _ => exact hp.elim
theorem de_dget1v (i : Nat) (c : Ctx X W k) (ho : PE X (.Name x np) (tVar i)) (he : DE X W e db) (m : M1 X (.Name x np) "get" apos e cpos := by exact ⟨rfl, rfl, rfl, rfl⟩) : DE X W (.Call (.Attribute (.Name x np) "get" apos) [e] [] cpos) (dGet1v i db) :=
  DE.of (pe_dget1 (by have := c.hu; omega) ho he m) (eo_dget1v canon_ok)
@[simp] theorem ap_dGet1v {i : Nat} {ρ : Env} : dGet1v i db ρ = match slot ρ i with
  | some (.dic _ _ _) => (db ρ).bind fun q ρ2 => match slot ρ2 i with
    | some p => opt (gDG2 p q .non) ρ2
    | none => .bad
  | _ => .bad := id rfl
/-! ### range with a step -/
theorem RgC.two {i j : Int} (ha : -(2 ^ 60) ≤ i) (ha' : i < 2 ^ 60) (hb : -(2 ^ 60) ≤ j) (hb' : j < 2 ^ 60) : RgC i j 2 ((j - i + 1) / 2).toNat := by
  have hs : Builtin.Range.rangeSize i j 2 = (((j - i + 1) / 2).toNat : Int) := by
    unfold Builtin.Range.rangeSize
    simp only [show ((2 : Int) > 0) by decide, if_true]
    split <;> omega
  refine ⟨by decide, by decide, ?_, hs⟩
  unfold Builtin.Range.small
  rw [hs]
  simp only [Builtin.Range.rangeFitsLong, Bool.and_eq_true, Bool.or_eq_true, decide_eq_true_eq, beq_iff_eq, show ((2 : Int) > 0) by decide, if_true]
  omega
theorem di_r3 {tg : Expr} (B : Bi X.mg) (ha : DA X W [e, a, b] dl) (hg : Gl X "range" := by rfl) (hs : starEach [e, a, b] X.env = (false, eval e X.env) :: starEach [a, b] X.env := by rfl) (hpl : (backTo pos (starEach [a, b] X.env)).any (·.1) = false := by rfl) : DI X W tg (.Call (.Name "range" p) [e, a, b] [] pos) (iR3 dl) :=
  DI.of (pi_range3 hg B.range ha hs hpl) fun H₀ S₀ M S σ H ρ Q ab hp => canon_ok.bind (Rl' := rIt X.K) ab hp fun ps ρ1 vs S1 H1 _ a1 _ r1 hq => by
    split at hq
    · split at hq
      · rename_i i j c hc
        split at hq
        · rename_i hz
          simp only [Bool.and_eq_true, decide_eq_true_eq] at hz
          cases r1 with
          | cons r2 r3 =>
            cases r3 with
            | cons r4 r5 =>
              cases r5 with
              | cons r6 r7 =>
                cases r7; cases r2; cases r4; cases r6
                refine ⟨_, _, _, _, rfl, ?_, hq _ S1 H1 a1 itr_rangeC⟩
                rcases hc with rfl | rfl
                · rw [if_pos rfl]
                  exact RgC.two hz.1.1 hz.1.2 hz.2.1 hz.2.2
                · rw [if_neg (by decide)]
                  exact RgC.neg (by omega) (by omega) (by omega) (by omega)
        · exact hq.elim
      · exact hq.elim
    · exact hq.elim
def rg3 (ps : List PV) (ρ1 : Env) : Rs (List PV) := match ps with
  | [.int i, .int j, .int c] => if c = 2 ∨ c = -1 then (if decide (-(2 ^ 60) ≤ i) && decide (i < 2 ^ 60) && (decide (-(2 ^ 60) ≤ j) && decide (j < 2 ^ 60)) then .ok (rangeC i c (if c = 2 then ((j - i + 1) / 2).toNat else (i - j).toNat)) ρ1 else .bad) else .bad
  | _ => .bad
@[simp] theorem ap_iR3 {ρ : Env} : iR3 dl ρ = (dl ρ).bind fun ps ρ1 => rg3 ps ρ1 := id rfl
theorem rg3_down {i j : Int} {ρ : Env} (h1 : -1000000000 ≤ i) (h2 : i ≤ 1000000000) (h3 : -1000000000 ≤ j) (h4 : j ≤ 1000000000) : rg3 [.int i, .int j, .int (-1)] ρ = .ok (rangeC i (-1) (i - j).toNat) ρ := by
  have h1 : decide (-(2 ^ 60) ≤ i) = true := decide_eq_true (by omega)
  have h2 : decide (i < 2 ^ 60) = true := decide_eq_true (by omega)
  have h3 : decide (-(2 ^ 60) ≤ j) = true := decide_eq_true (by omega)
  have h4 : decide (j < 2 ^ 60) = true := decide_eq_true (by omega)
  simp only [rg3, h1, h2, h3, h4]
  rfl
theorem rg3_two {i j : Int} {ρ : Env} (h1 : -1000000000 ≤ i) (h2 : i ≤ 1000000000) (h3 : -1000000000 ≤ j) (h4 : j ≤ 1000000000) : rg3 [.int i, .int j, .int 2] ρ = .ok (rangeC i 2 ((j - i + 1) / 2).toNat) ρ := by
  have h1 : decide (-(2 ^ 60) ≤ i) = true := decide_eq_true (by omega)
  have h2 : decide (i < 2 ^ 60) = true := decide_eq_true (by omega)
  have h3 : decide (-(2 ^ 60) ≤ j) = true := decide_eq_true (by omega)
  have h4 : decide (j < 2 ^ 60) = true := decide_eq_true (by omega)
  simp only [rg3, h1, h2, h3, h4]
  rfl
end
section
variable {X : Cx} {W : WX} {fr : Bool} {k : Nat} {pos p p2 p3 : Pos} {x y : Str}
/-! y = [.. for .. in a dict that stays owned] -/
theorem ds_setLcDk {elt tg : Expr} {ifs : List Expr} {scope : Scope} {g : TG} {dg : DenG} {dt : DenB} {de : Den} (j i : Nat) (own : List (Str × Nat)) (c : Ctx X W k) (hv : PE X (.Name x p3) (tVar i)) (hl : LG X.K (own.map (·.2)) g dg)
    (hg : ∀ (s : Shared) (H : Hp) (C : Addr) (cl : List (Str × Addr)) (fp : List Addr), DG (X.blk s H scope (PySem.compEnvC scope cl C X.env) fp) tg g dg) (ht : ∀ (s : Shared) (H : Hp) (C : Addr) (cl : List (Str × Addr)) (fp : List Addr), DTs (X.blk s H scope (PySem.compEnvC scope cl C X.env) fp) (fun _ _ _ _ => False) ifs dt)
    (he : ∀ (s : Shared) (H : Hp) (C : Addr) (cl : List (Str × Addr)) (fp : List Addr), DE (X.blk s H scope (PySem.compEnvC scope cl C X.env) fp) (fun _ _ _ _ => False) elt de) (hy : X.N[j]? = some y := by rfl) (hyl : X.env.scope.names.lookup y = some .local := by rfl)
    (hsw : swapsWith (.ListComp elt [⟨tg, .Name x p3, ifs, 0⟩] scope p2) (some (.Name y p)) pos.line X.env = pure true := by exact sw_true rfl rfl rfl (by decide +kernel)) (ok : BlkOk X.N X.env.scope scope own := by exact blkOk_by (by decide +kernel)) (hs : ∀ z, foldedSetIterable (.Name x p3) X.env z = pure z := by intro _; rfl) :
    DS X W fr (.Assign [.Name y p] (.ListComp elt [⟨tg, .Name x p3, ifs, 0⟩] scope p2) pos) (sSet j (dLcDk (own.map (·.2)) i dg dt de)) :=
  DS.of (ps_lockA (ps_setLc c.calm c.nd hy hyl hsw (pi_keys hv) ok (fun s H C cl fp => (hg s H C cl fp).pg) ht he hs)) (so_set (fo_lcDk hl.ok hl.w hl.mono canon_ok canon_ok).shared)
theorem ds_setLcDkF {elt tg : Expr} {ifs : List Expr} {scope : Scope} {g : TG} {dg : DenG} {dt : DenB} {de : Den} (j i : Nat) (own : List (Str × Nat)) (c : Ctx X W k) (hv : PE X (.Name x p3) (tVar i)) (hl : LG X.K (own.map (·.2)) g dg)
    (hg : ∀ (s : Shared) (H : Hp) (C : Addr) (cl : List (Str × Addr)) (fp : List Addr), DG (X.blk s H scope (PySem.compEnvC scope cl C X.env) fp) tg g dg) (ht : ∀ (s : Shared) (H : Hp) (C : Addr) (cl : List (Str × Addr)) (fp : List Addr), DTs (X.blk s H scope (PySem.compEnvC scope cl C X.env) fp) (fun _ _ _ _ => False) ifs dt)
    (he : ∀ (s : Shared) (H : Hp) (C : Addr) (cl : List (Str × Addr)) (fp : List Addr), DE (X.blk s H scope (PySem.compEnvC scope cl C X.env) fp) (fun _ _ _ _ => False) elt de) (hy : X.N[j]? = some y := by rfl) (hyl : X.env.scope.names.lookup y = some .local := by rfl)
    (hsw : swapsWith (.ListComp elt [⟨tg, .Name x p3, ifs, 0⟩] scope p2) (some (.Name y p)) pos.line X.env = pure true := by exact sw_true rfl rfl rfl (by decide +kernel)) (ok : BlkOk X.N X.env.scope scope own := by exact blkOk_by (by decide +kernel)) (hs : ∀ z, foldedSetIterable (.Name x p3) X.env z = pure z := by intro _; rfl) :
    DS X W fr (.Assign [.Name y p] (.ListComp elt [⟨tg, .Name x p3, ifs, 0⟩] scope p2) pos) (sSetF j (dLcDk (own.map (·.2)) i dg dt de)) :=
  DS.of (ps_lockA (ps_setLc c.calm c.nd hy hyl hsw (pi_keys hv) ok (fun s H C cl fp => (hg s H C cl fp).pg) ht he hs)) (so_setF (fo_lcDk hl.ok hl.w hl.mono canon_ok canon_ok))
end
end PL

set_option Elab.async false
set_option linter.all false
set_option maxRecDepth 100000
set_option maxHeartbeats 4000000
namespace PL
open PySem PySem.Spec L2
open PyProof.Rows hiding St
set_option autoImplicit false
/-! ### a list extended by a list or a tuple -/
section
open PySem.AutoSeq1 in
set_option maxRecDepth 8000 in
theorem extend_tup (l : Addr) (items : Array Value) (n : Nat) (b : Addr) (ob : Obj) (items2 : Array Value) (n2 : Nat) (hcls : ob.cls = .type "tuple") (hdat : ob.data = .seq items2 n2) (hs0 : ¬(!items.isEmpty && Builtin.List.listTooLong (items.size + items2.size)) = true) (hs1 : items.size ≤ sizeLine) (hs2 : items.size + items2.size ≤ sizeLine + 1) :
    Meets (Builtin.«list.extend» ⟨[.ref l, .ref b], []⟩) (fun _ R s => s.heap.get? l = some { cls := .type "list", dict := none, data := .seq items n, slots := #[] } ∧ s.heap.get? b = some ob ∧ R (.ok (.ret Value.none)) { s with heap := s.heap.update l (Obj.mapSeq fun x => x ++ items2), toks := s.toks }) :=
  .of_wp fun prog w A R s h => by
    obtain ⟨c, dd, da, sl⟩ := ob
    cases hcls
    cases hdat
    obtain ⟨hp, g, d, tk, os⟩ := s; obtain ⟨hl, hb, h⟩ := h; have f1 := AutoSeq1.idx_int; have f2 := AutoSeq1.sub_tuple_tuple; have f3 := AutoSeq1.sub_list_list; have f4 := AutoSeq1.sub_tuple_list; have f5 := AutoSeq1.sub_list_tuple;
    have hz' : (items ++ items2).size ≤ sizeLine + 1 := by rw [Array.size_append]; exact hs2
    wp_walk using (wpAny_updateSeq hl rfl (hz := hs1) (_hz' := hz')), AutoSeq1.wpAny_loadPart' hl, AutoSeq1.wpAny_loadPart' hb; exact ⟨_, rfl, h⟩
end
section
variable {X : Cx}
def rExtendU (K : PySem.W.Frag) : V → List V → Hp → VK → Prop := fun x vs H Q => ∃ l b xs zs, x = .ref l ∧ vs = [.ref b] ∧ H l = some (.lst xs) ∧ (H b = some (.lst zs) ∨ SqT K H b zs) ∧ xs.length + zs.length ≤ sizeLine ∧ Q .non (upd H l (.lst (xs ++ zs)))
theorem mt_extendU : MtM X "list.extend" (rExtendU X.K) := by
  intro pins s σ H x vs v us Q I rx rv h
  obtain ⟨l, b, xs, zs, rfl, rfl, hH, hB, hz, q⟩ := h
  rcases hB with hB | hB
  · exact mt_extend pins s σ H _ _ v us Q I rx rv ⟨l, b, xs, zs, rfl, rfl, hH, hB, hz, q⟩
  cases rx
  obtain ⟨u, rfl, ru⟩ := rv.one
  cases ru
  obtain ⟨z, its, n, r, hl, e⟩ := I.lstM hH
  obtain ⟨its2, r2, ⟨o2, e2, c2, n2, d2⟩, _⟩ := I.tuple hB
  have hl2 := r2.length
  have hsz : its.toArray.size + its2.toArray.size ≤ sizeLine := by rw [List.size_toArray, List.size_toArray]; omega
  have hlong : ¬ (!its.toArray.isEmpty && Builtin.List.listTooLong (its.toArray.size + its2.toArray.size)) = true := by
    rw [notLongL hsz, Bool.and_false]
    exact Bool.false_ne_true
  refine call_meets F.slot_list_extend ⟨_, e, rfl⟩ F.entry_list_extend (F.args_list_extend_2 _ _)
    (extend_tup l its.toArray n b o2 its2.toArray n2 c2 d2 hlong (by rw [List.size_toArray]; omega) (by omega)) ⟨e, e2, ?_⟩
  refine ⟨.non, _, I.lset (its' := its ++ its2) hH e (by simp) (r.append r2) ?_, rfl, q⟩
  rw [List.length_append]
  omega
end
def gExtendU : PV → List PV → Option (PV × PV)
  | .lst ps, [.lst qs] => if ps.length + qs.length ≤ sizeLine then some (.lst (ps ++ qs), .non) else none
  | .lst ps, [.tup qs] => if ps.length + qs.length ≤ sizeLine then some (.lst (ps ++ qs), .non) else none
  | _, _ => none
theorem mu_extendU {K : PySem.W.Frag} : MutOk K (rExtendU K) gExtendU := by
  intro S H b o p q z ps vs Q s sb hb w r e k
  unfold gExtendU at e
  split at e
  · split at e
    · rename_i hz
      cases e
      obtain ⟨us, rfl, h5⟩ := own_lst w
      cases r with
      | cons r1 r2 =>
        cases r2
        cases r1 with
        | lst h1 h2 =>
          refine ⟨_, _, _, _, rfl, rfl, hb, .inl (s _ _ h1), ?_, k _ _ (h5.append h2) .non⟩
          rw [← h5.length, ← h2.length]
          exact hz
    · cases e
  · split at e
    · rename_i hz
      cases e
      obtain ⟨us, rfl, h5⟩ := own_lst w
      cases r with
      | cons r1 r2 =>
        cases r2
        cases r1 with
        | tup h1 h2 =>
          refine ⟨_, _, _, _, rfl, rfl, hb, .inr (SqT.of (s _ _ h1)), ?_, k _ _ (h5.append h2) .non⟩
          rw [← h5.length, ← h2.length]
          exact hz
    · cases e
  · cases e
section
variable {X : Cx} {W : WX} {fr : Bool} {k : Nat} {pos p p2 p3 apos np cpos : Pos} {x y : Str} {e : Expr} {es : List Expr} {dl : DenL}
theorem de_extendU (i : Nat) (ho : PE X (.Name x np) (tVar i)) (ha : DA X W (e :: es) dl) (hbase : attributeBase (.Name x np) "extend" X.env (eval (.Name x np) X.env) = eval (.Name x np) X.env := by rfl)
    (hfew : ((backTo cpos (starEach (e :: es) X.env)).all (fun x => !x.1) && (backToKw cpos (keywordEach [] X.env)).all (fun x => x.1.isSome) && decide ((e :: es).length + ([] : List Keyword).length + (if ([] : List Keyword).isEmpty then 0 else 1) < 30)) = true := by rfl)
    (hline : (apos.endLine == cpos.line) = true := by rfl) (hs : starEach (e :: es) X.env = (false, eval e X.env) :: starEach es X.env := by rfl) (hplain : (backTo cpos (starEach es X.env)).any (·.1) = false := by rfl) :
    DE X W (.Call (.Attribute (.Name x np) "extend" apos) (e :: es) [] cpos) (dMut "list" gExtendU i dl) :=
  DE.of (pe_bm PySem.F.plainAttrs_list PySem.F.slot_list_extend PySem.F.type_list_extend mt_extendU ho ha hbase hfew hline hs hplain) (eo_mut canon_ok mu_extendU)
end
/-! ### a part that only looks: the owned things stand still meanwhile -/
def Sl.frz : Sl → Sl
  | .ow p => .sh p
  | .io p => .sh p
  | s => s
def frzE (ρ : Env) : Env := ρ.map Sl.frz
def PV.flat : PV → Bool
  | .lst ps => ps.all PV.sc
  | p => p.sc
def dPeek (d : Den) : Den := fun ρ => match d (frzE ρ) with
  | .ok p _ => if p.sc then .ok p ρ else .bad
  | _ => .bad
def dPeekL (d : Den) : Den := fun ρ => match d (frzE ρ) with
  | .ok (.lst ps) _ => if ps.all PV.sc then .ok (.lst ps) ρ else .bad
  | _ => .bad
def bPeek (d : DenB) : DenB := fun ρ => match d (frzE ρ) with
  | .ok b _ => .ok b ρ
  | _ => .bad
section
variable {K : PySem.W.Frag} {mg : Str → Option Value} {W : WX} {H₀ S₀ : Hp} {M : Addr → Prop} {S S' H H' : Hp} {σ : St} {ρ ρ' : Env}
theorem Abs.peek (a : Abs K H₀ S₀ M S σ H ρ) : Abs K H H (fun _ => False) H σ H (frzE ρ) := by
  have no : ∀ (s : Sl) (p : PV), s.frz.own? ≠ some p := fun s p h => by cases s <;> cases h
  have at_ : ∀ {j : Nat} {s : Sl}, (frzE ρ)[j]? = some s → ∃ t, ρ[j]? = some t ∧ t.frz = s := fun {j s} h => by
    unfold frzE at h
    rw [List.getElem?_map] at h
    cases e : ρ[j]? with
    | none => rw [e] at h; cases h
    | some t => rw [e] at h; exact ⟨t, rfl, Option.some.inj h⟩
  refine ⟨by unfold frzE; rw [List.length_map]; exact a.len, Same.refl _, Same.refl _, fun b o e => .inl e, fun b o e _ => e, fun b o e => ⟨o, e⟩, fun i p e => ?_, fun i s p e es => ?_, fun i j s t p q c e es _ _ _ _ => ?_⟩
  · obtain ⟨t, e1, e2⟩ := at_ e
    cases t with
    | un => cases e2
    | sh q =>
      cases e2
      obtain ⟨v, h1, h2⟩ := a.sh i p e1
      exact ⟨v, h1, h2.up a.sub⟩
    | ow q =>
      cases e2
      obtain ⟨b, o, h1, h2, h3, h4, h5, h6⟩ := a.own i _ _ e1 rfl
      exact ⟨_, h1, (h6.up a.sub).rep h5⟩
    | io q =>
      cases e2
      obtain ⟨b, o, h1, h2, h3, h4, h5, h6⟩ := a.own i _ _ e1 rfl
      exact ⟨_, h1, (h6.up a.sub).rep h5⟩
  · obtain ⟨t, e1, e2⟩ := at_ e
    subst e2
    exact (no t p es).elim
  · obtain ⟨t, e1, e2⟩ := at_ e
    subst e2
    exact (no t p es).elim
theorem Abs.unpeek (a : Abs K H₀ S₀ M S σ H ρ) (b : Abs K H H (fun _ => False) S' σ H' ρ') : Abs K H₀ S₀ M S σ H' ρ :=
  have h : Same H H' := fun c o e => b.keep c o e (fun z => z)
  a.step ⟨Same.refl _, h, a.sub.trans h, fun c o e => .inl e⟩
theorem eo_peek {t : TE} {d : Den} (h : XOk K mg (fun _ _ _ _ => False) (rV K) t d) : XOk K mg W (rV K) t (dPeek d) := by
  intro H₀ S₀ M S σ H ρ Q ab hp
  refine h H H _ H σ H (frzE ρ) Q ab.peek ?_
  unfold dPeek at hp
  cases e : d (frzE ρ) with
  | bad => rw [e] at hp; exact hp
  | exc x ρ1 => rw [e] at hp; exact hp.elim
  | ok p ρ1 =>
    simp only [e] at hp
    intro v S' H' a' r
    by_cases hs : p.sc = true
    · rw [if_pos hs] at hp
      exact hp v S H' (ab.unpeek a') (Rep.sc r hs)
    · rw [if_neg hs] at hp; exact hp.elim
theorem to_peek {t : TT} {d : DenB} (h : XOk K mg (fun _ _ _ _ => False) rB t d) : XOk K mg W rB t (bPeek d) := by
  intro H₀ S₀ M S σ H ρ Q ab hp
  refine h H H _ H σ H (frzE ρ) Q ab.peek ?_
  unfold bPeek at hp
  cases e : d (frzE ρ) with
  | bad => rw [e] at hp; exact hp
  | exc x ρ1 => rw [e] at hp; exact hp.elim
  | ok p ρ1 =>
    simp only [e] at hp
    intro v S' H' a' r
    exact hp v S H' (ab.unpeek a') r
theorem RepL.sc : ∀ {ps : List PV} {vs : List V}, RepL K S ps vs → ps.all PV.sc = true → RepL K S' ps vs
  | [], _, .nil, _ => .nil
  | p :: ps, _, .cons h t, e => by
    simp only [List.all_cons, Bool.and_eq_true] at e
    exact .cons (Rep.sc h e.1) (RepL.sc t e.2)
theorem fo_peek {t : TE} {d : Den} (h : XOk K mg (fun _ _ _ _ => False) (rF K) t d) : XOk K mg W (rF K) t (dPeekL d) := by
  intro H₀ S₀ M S σ H ρ Q ab hp
  refine h H H _ H σ H (frzE ρ) Q ab.peek ?_
  unfold dPeekL at hp
  cases e : d (frzE ρ) with
  | bad => rw [e] at hp; exact hp
  | exc x ρ1 => rw [e] at hp; exact hp.elim
  | ok p ρ1 =>
    simp only [e] at hp
    intro v S' H' a' r
    cases p with
    | lst ps =>
      simp only at hp
      by_cases hs : ps.all PV.sc = true
      · rw [if_pos hs] at hp
        obtain ⟨b, o, rfl, f1, f2, f3, f4, f5⟩ := r
        obtain ⟨us, rfl, f4⟩ := own_lst f4
        have hH : H b = none := f1
        refine hp _ S H' (ab.unpeek a') ⟨b, _, rfl, ab.none0 hH, ab.sub.free hH, f3, ?_, fun j s q ej es z => ?_⟩
        · exact RepL.sc f4 hs
        · obtain ⟨c, o', z1, _, _, _, z5, _⟩ := ab.own j s q ej es
          rw [z] at z1
          cases z1
          rw [hH] at z5; cases z5
      · rw [if_neg hs] at hp; exact hp.elim
    | _ => exact hp.elim
end
section
variable {X : Cx} {W : WX} {fr : Bool} {k : Nat} {pos p p2 p3 : Pos} {x y : Str}
/-! y = [.. for .. in a dict], the dict read inside -/
theorem ds_setLcDp {elt tg : Expr} {ifs : List Expr} {scope : Scope} {g : TG} {dg : DenG} {dt : DenB} {de : Den} (j i : Nat) (own : List (Str × Nat)) (c : Ctx X W k) (hv : PE X (.Name x p3) (tVar i)) (hl : LG X.K (own.map (·.2)) g dg)
    (hg : ∀ (s : Shared) (H : Hp) (C : Addr) (cl : List (Str × Addr)) (fp : List Addr), DG (X.blk s H scope (PySem.compEnvC scope cl C X.env) fp) tg g dg) (ht : ∀ (s : Shared) (H : Hp) (C : Addr) (cl : List (Str × Addr)) (fp : List Addr), DTs (X.blk s H scope (PySem.compEnvC scope cl C X.env) fp) (fun _ _ _ _ => False) ifs dt)
    (he : ∀ (s : Shared) (H : Hp) (C : Addr) (cl : List (Str × Addr)) (fp : List Addr), DE (X.blk s H scope (PySem.compEnvC scope cl C X.env) fp) (fun _ _ _ _ => False) elt de) (hy : X.N[j]? = some y := by rfl) (hyl : X.env.scope.names.lookup y = some .local := by rfl)
    (hsw : swapsWith (.ListComp elt [⟨tg, .Name x p3, ifs, 0⟩] scope p2) (some (.Name y p)) pos.line X.env = pure true := by exact sw_true rfl rfl rfl (by decide +kernel)) (ok : BlkOk X.N X.env.scope scope own := by exact blkOk_by (by decide +kernel)) (hs : ∀ z, foldedSetIterable (.Name x p3) X.env z = pure z := by intro _; rfl) :
    DS X W fr (.Assign [.Name y p] (.ListComp elt [⟨tg, .Name x p3, ifs, 0⟩] scope p2) pos) (sSet j (dPeekL (dLcD (own.map (·.2)) i dg dt de))) :=
  DS.of (ps_lockA (ps_setLc c.calm c.nd hy hyl hsw (pi_keys hv) ok (fun s H C cl fp => (hg s H C cl fp).pg) ht he hs)) (so_set (fo_peek (fo_lcD hl.ok hl.w hl.mono canon_ok canon_ok)).shared)
end
end PL

set_option Elab.async false
set_option linter.all false
set_option maxRecDepth 100000
set_option maxHeartbeats 4000000
namespace PL.K95
open PySem PySem.Spec L2 PL
open PyProof.Rows hiding St
set_option autoImplicit false
def top (i : Nat) : Stmt := PySem.Challenge.pw_presswork_k95_whole_lines_and_pages_alik.main.body.getD i (.Pass ⟨0, 0, 0, 0⟩)

abbrev errs : List Str := [("InvalidItems" : Str), ("InvalidLength" : Str), ("InvalidPages" : Str), ("TooMany" : Str)]
abbrev c_FORCED : PV := .int (-10000)
abbrev c_MOST_ITEMS : PV := .int (400)
abbrev c_MOST_ROWS : PV := .int (200)
abbrev c_NEVER : PV := .int (10000)
abbrev s__law_deck : Stmt := top 46
abbrev s__law_items : Stmt := top 49
abbrev s_Pages___init__ : Stmt := inClass (top 36) 0
abbrev s_Pages_ends : Stmt := inClass (top 36) 1
abbrev s_Pages_badness : Stmt := inClass (top 36) 2
abbrev s_Pages_least : Stmt := inClass (top 36) 3
abbrev s_is_integer : Stmt := top 30
abbrev s_is_row : Stmt := top 31
abbrev s_check_rows : Stmt := top 32
abbrev s_check_heights : Stmt := top 33
abbrev s_best_pages : Stmt := top 37
abbrev s_is_whole : Stmt := top 10
abbrev s_is_item : Stmt := top 11
abbrev s_is_items : Stmt := top 12
abbrev s_check_items : Stmt := top 13
abbrev s_check_paragraph : Stmt := top 14
abbrev s_is_break : Stmt := top 15
abbrev s_all_breaks : Stmt := top 17
abbrev s_is_forced : Stmt := top 16
abbrev s_line_between : Stmt := top 18
abbrev s_sums_of : Stmt := top 19
abbrev s_left_over : Stmt := top 23
abbrev s_width_at : Stmt := top 21
abbrev s_best_ragged : Stmt := top 27
abbrev s_check_columns : Stmt := top 40
abbrev s_filled_columns : Stmt := top 41
abbrev s_used : Stmt := top 34
abbrev s_balanced : Stmt := top 44
abbrev s__law_take : Stmt := top 47
abbrev s_first_fit : Stmt := top 38
abbrev s_filled_ragged : Stmt := top 24
abbrev s_least_lines : Stmt := top 26
abbrev s__law_plain : Stmt := top 48
abbrev s_least_height : Stmt := top 43
abbrev s_law : Stmt := top 50
abbrev F__law_deck := F_deck
def B__law_items_1 : DenS :=
  (sSeq (sIf (bVal (d2 gGt (d1v gLen 1) (dC (.int 0)))) (sExpr (dMut "list" gAppend 1 (dCons (dTup (dCons (dC (.str ("glue" : Str))) (dCons (dVar 3) (dCons (dC (.int 0)) (dCons (dC (.int 0)) dNil))))) dNil))) sNx)
    (sExpr (dMut "list" gAppend 1 (dCons (dTup (dCons (dC (.str ("box" : Str))) (dCons (dVar 2) (dCons (dC (.str ("x" : Str))) dNil)))) dNil))))
def den__law_items : DenS :=
  (sSeq (sSetF 1 (dLst dNil))
    (sSeq (sFor (iSeq (dVar 0)) (gTup (gsCons (gName 2) (gsCons (gName 3) (gsCons (gName 4) (gsCons (gName 5) gsNil))))) B__law_items_1)
    (sRet (dAdd (dVar 1) (dLst (dCons (dTup (dCons (dC (.str ("penalty" : Str))) (dCons (dC (.int 0)) (dCons (dNeg (dC (.int 10000))) (dCons (dC (.bl false)) dNil))))) dNil))))))
def F__law_items : List PV → FR := runD false false 1 6 den__law_items
def den_Pages___init__ : DenS :=
  (sSeq (sFldSet 0 ("Pages" : Str) ("rows" : Str) (dVar 1))
    (sSeq (sFldSet 0 ("Pages" : Str) ("height" : Str) (dVar 2))
    (sSeq (sFldSet 0 ("Pages" : Str) ("rule" : Str) (dVar 3))
    (sFldSet 0 ("Pages" : Str) ("count" : Str) (dN gLenN (dCons (dVar 1) dNil))))))
def F_Pages___init__ : List PV → FR := runD true false 4 4 den_Pages___init__
def B_Pages_ends_1 : DenS :=
  (sSeq (sAsg (d2 gIx (d1 (gFld ("Pages" : Str) ("rows" : Str)) (dVar 0)) (dSub (dVar 5) (dC (.int 1)))) (gTup (gsCons (gName 6) (gsCons (gName 7) (gsCons (gName 8) (gsCons (gName 9) gsNil))))))
    (sSeq (sSet 3 (dAdd (dAdd (dAdd (dVar 3) (dVar 6)) (dN gSumU (dCons (dVar 9) dNil))) (dMul (dVar 7) (dN gInt (dCons (d2 gGt (dSub (dVar 5) (dC (.int 1))) (dVar 1)) dNil)))))
    (sSeq (sSet 4 (dIf (bTruV 9) (d1 (gFld ("Pages" : Str) ("rule" : Str)) (dVar 0)) (dVar 4)))
    (sIf (bOr (bVal (d2 gEq (dVar 5) (d1 (gFld ("Pages" : Str) ("count" : Str)) (dVar 0)))) (bVal (d2 (gIsN true) (dVar 8) (dC .non)))) (sIf (bVal (d2 gLe (dAdd (dVar 3) (dVar 4)) (d1 (gFld ("Pages" : Str) ("height" : Str)) (dVar 0)))) (sExpr (dMut "list" gAppend 2 (dCons (dTup (dCons (dVar 5) (dCons (dAdd (dVar 3) (dVar 4)) dNil))) dNil))) sNx) sNx))))
def den_Pages_ends : DenS :=
  (sSeq (sSetF 2 (dLst dNil))
    (sSeq (sSet 3 (dC (.int 0)))
    (sSeq (sSet 4 (dC (.int 0)))
    (sSeq (sFor (iR2 (dCons (dAdd (dVar 1) (dC (.int 1))) (dCons (dAdd (d1 (gFld ("Pages" : Str) ("count" : Str)) (dVar 0)) (dC (.int 1))) dNil))) (gName 5) B_Pages_ends_1)
    (sRet (dVar 2))))))
def F_Pages_ends : List PV → FR := runD false false 2 10 den_Pages_ends
def den_Pages_badness : DenS :=
  (sSeq (sIf (bVal (d2 gEq (dVar 1) (d1 (gFld ("Pages" : Str) ("count" : Str)) (dVar 0)))) (sRet (dC (.int 0))) sNx)
    (sSeq (sSet 3 (dSub (d1 (gFld ("Pages" : Str) ("height" : Str)) (dVar 0)) (dVar 2)))
    (sRet (dAdd (dMul (dVar 3) (dVar 3)) (d2 gIx (d2 gIx (d1 (gFld ("Pages" : Str) ("rows" : Str)) (dVar 0)) (dSub (dVar 1) (dC (.int 1)))) (dC (.int 2)))))))
def F_Pages_badness : List PV → FR := runD false false 3 4 den_Pages_badness
def B_Pages_least_2 : DenS :=
  (sIf (bVal (d2 (gIsN true) (d2l gIx 1 (dVar 4)) (dC .non))) (sExpr (dMut "list" gAppend 3 (dCons (dAdd (d2l gIx 1 (dVar 4)) (dMeth ("Pages" : Str) ("badness" : Str) F_Pages_badness (dVar 0) (dCons (dVar 4) (dCons (dVar 5) dNil)))) dNil))) sNx)
def B_Pages_least_1 : DenS :=
  (sSeq (sSetF 3 (dLst dNil))
    (sSeq (sFor (iSeq (dMeth ("Pages" : Str) ("ends" : Str) F_Pages_ends (dVar 0) (dCons (dVar 2) dNil))) (gTup (gsCons (gName 4) (gsCons (gName 5) gsNil))) B_Pages_least_2)
    (sSub gSetL 1 (dVar 2) (dIf (bTruV 3) (dN gMinD (dCons (dVar 3) dNil)) (dC .non)))))
def den_Pages_least : DenS :=
  (sSeq (sSetF 1 (d2 gCat (dMul (dLst (dCons (dC .non) dNil)) (d1 (gFld ("Pages" : Str) ("count" : Str)) (dVar 0))) (dLst (dCons (dC (.int 0)) dNil))))
    (sSeq (sFor (iR3 (dCons (dSub (d1 (gFld ("Pages" : Str) ("count" : Str)) (dVar 0)) (dC (.int 1))) (dCons (dNeg (dC (.int 1))) (dCons (dNeg (dC (.int 1))) dNil)))) (gName 2) B_Pages_least_1)
    (sRet (dVar 1))))
def F_Pages_least : List PV → FR := runD false false 1 6 den_Pages_least
def den_is_integer : DenS :=
  (sRet (dAndT (d1 (gIsi "int") (dVar 0)) (dAndT (dNotT (d1 (gIsi "bool") (dVar 0))) (d2 gGe (dVar 0) (dVar 1)))))
def F_is_integer : List PV → FR := runD false false 2 2 den_is_integer
def E_is_row_1 : Den :=
  (dVar 5)
def T_is_row_1 : DenB :=
  (bNot (bTru (dCall F_is_integer (dCons (dVar 5) (dCons (dC (.int 1)) dNil)))))
def den_is_row : DenS :=
  (sSeq (sIf (bOr (bNot (bTru (d1 (gIsi "tuple") (dVar 0)))) (bVal (d2 gNe (dN gLenN (dCons (dVar 0) dNil)) (dC (.int 4))))) (sRet (dC (.bl false))) sNx)
    (sSeq (sAsg (dVar 0) (gTup (gsCons (gName 1) (gsCons (gName 2) (gsCons (gName 3) (gsCons (gName 4) gsNil))))))
    (sSeq (sIf (bOr (bNot (bTru (dCall F_is_integer (dCons (dVar 1) (dCons (dC (.int 1)) dNil))))) (bOr (bNot (bTru (dCall F_is_integer (dCons (dVar 2) (dCons (dC (.int 0)) dNil))))) (bNot (bTru (d1 (gIsi "tuple") (dVar 4)))))) (sRet (dC (.bl false))) sNx)
    (sRet (dAndT (dOrT (d2 (gIsN false) (dVar 3) (dC .non)) (dCall F_is_integer (dCons (dVar 3) (dCons (dC (.int 0)) dNil)))) (dNotT (dLc [5] (iSeq (dVar 4)) (gName 5) T_is_row_1 E_is_row_1)))))))
def F_is_row : List PV → FR := runD false false 1 6 den_is_row
def E_check_rows_1 : Den :=
  (dVar 1)
def T_check_rows_1 : DenB :=
  (bNot (bTru (dCall F_is_row (dCons (dVar 1) dNil))))
def den_check_rows : DenS :=
  (sSeq (sIf (bTru (dLc [1] (iSeq (dVar 0)) (gName 1) T_check_rows_1 E_check_rows_1)) (sRaise ("InvalidPages" : Str) "what" (dC (.str ("rows" : Str)))) sNx)
    (sIf (bVal (d2 gGt (dN gLenN (dCons (dVar 0) dNil)) (dC c_MOST_ROWS))) (sRaise ("TooMany" : Str) "what" (dC (.str ("rows" : Str)))) sNx))
def F_check_rows : List PV → FR := runD false false 1 2 den_check_rows
def den_check_heights : DenS :=
  (sSeq (sExpr (dCall F_check_rows (dCons (dVar 0) dNil)))
    (sSeq (sIf (bVal (d2 gLt (dVar 1) (dC (.int 1)))) (sRaise ("InvalidPages" : Str) "what" (dC (.str ("height" : Str)))) sNx)
    (sIf (bVal (d2 gLt (dVar 2) (dC (.int 0)))) (sRaise ("InvalidPages" : Str) "what" (dC (.str ("rule" : Str)))) sNx)))
def F_check_heights : List PV → FR := runD false false 3 3 den_check_heights
def B_best_pages_2 : DenS :=
  (sIf (bAnd (bVal (d2 (gIsN true) (d2 gIx (dVar 4) (dVar 7)) (dC .non))) (bVal (d2 gEq (dAdd (d2 gIx (dVar 4) (dVar 7)) (dMeth ("Pages" : Str) ("badness" : Str) F_Pages_badness (dVar 3) (dCons (dVar 7) (dCons (dVar 8) dNil)))) (d2 gIx (dVar 4) (dVar 6))))) sBk sNx)
def B_best_pages_1 : DenS :=
  (sSeq (sFor (iSeq (dMeth ("Pages" : Str) ("ends" : Str) F_Pages_ends (dVar 3) (dCons (dVar 6) dNil))) (gTup (gsCons (gName 7) (gsCons (gName 8) gsNil))) B_best_pages_2)
    (sSeq (sExpr (dMut "list" gAppend 5 (dCons (dVar 7) dNil)))
    (sSet 6 (dVar 7))))
def den_best_pages : DenS :=
  (sSeq (sExpr (dCall F_check_heights (dCons (dVar 0) (dCons (dVar 1) (dCons (dVar 2) dNil)))))
    (sSeq (sSet 3 (dMake ("Pages" : Str) F_Pages___init__ (dCons (dVar 0) (dCons (dVar 1) (dCons (dVar 2) dNil)))))
    (sSeq (sSet 4 (dMeth ("Pages" : Str) ("least" : Str) F_Pages_least (dVar 3) dNil))
    (sSeq (sIf (bVal (d2 (gIsN false) (d2 gIx (dVar 4) (dC (.int 0))) (dC .non))) (sRet (dC .non)) sNx)
    (sSeq (sSetF 5 (dLst dNil))
    (sSeq (sSet 6 (dC (.int 0)))
    (sSeq (sWhile (muD 0 6) (bVal (d2 gLt (dVar 6) (dN gLenN (dCons (dVar 0) dNil)))) B_best_pages_1)
    (sRet (dTup (dCons (dVar 5) (dCons (d2 gIx (dVar 4) (dC (.int 0))) dNil)))))))))))
def F_best_pages : List PV → FR := runD false false 3 9 den_best_pages
def den_is_whole : DenS :=
  (sRet (dAndT (d1 (gIsi "int") (dVar 0)) (dNotT (d1 (gIsi "bool") (dVar 0)))))
def F_is_whole : List PV → FR := runD false false 1 1 den_is_whole
def den_is_item : DenS :=
  (sSeq (sIf (bOr (bNot (bTru (d1 (gIsi "tuple") (dVar 0)))) (bNot (bTruV 0))) (sRet (dC (.bl false))) sNx)
    (sSeq (sIf (bVal (d2 gEq (d2 gIx (dVar 0) (dC (.int 0))) (dC (.str ("box" : Str))))) (sRet (dAndT (d2 gEq (dN gLenN (dCons (dVar 0) dNil)) (dC (.int 3))) (dAndT (dCall F_is_whole (dCons (d2 gIx (dVar 0) (dC (.int 1))) dNil)) (dAndT (d2 gGe (d2 gIx (dVar 0) (dC (.int 1))) (dC (.int 0))) (d1 (gIsi "str") (d2 gIx (dVar 0) (dC (.int 2)))))))) sNx)
    (sSeq (sIf (bOr (bVal (d2 gNe (dN gLenN (dCons (dVar 0) dNil)) (dC (.int 4)))) (bOr (bNot (bTru (dCall F_is_whole (dCons (d2 gIx (dVar 0) (dC (.int 1))) dNil)))) (bOr (bNot (bTru (dCall F_is_whole (dCons (d2 gIx (dVar 0) (dC (.int 2))) dNil)))) (bVal (d2 gLt (d2 gIx (dVar 0) (dC (.int 1))) (dC (.int 0))))))) (sRet (dC (.bl false))) sNx)
    (sSeq (sIf (bVal (d2 gEq (d2 gIx (dVar 0) (dC (.int 0))) (dC (.str ("glue" : Str))))) (sRet (dAndT (d2 gGe (d2 gIx (dVar 0) (dC (.int 2))) (dC (.int 0))) (dAndT (dCall F_is_whole (dCons (d2 gIx (dVar 0) (dC (.int 3))) dNil)) (dChain gLe gLe (dC (.int 0)) (d2 gIx (dVar 0) (dC (.int 3))) (d2 gIx (dVar 0) (dC (.int 1))))))) sNx)
    (sRet (dAndT (d2 gEq (d2 gIx (dVar 0) (dC (.int 0))) (dC (.str ("penalty" : Str)))) (dAndT (dChain gLe gLe (dC c_FORCED) (d2 gIx (dVar 0) (dC (.int 2))) (dC c_NEVER)) (d1 (gIsi "bool") (d2 gIx (dVar 0) (dC (.int 3)))))))))))
def F_is_item : List PV → FR := runD false false 1 1 den_is_item
def E_is_items_1 : Den :=
  (dVar 1)
def T_is_items_1 : DenB :=
  (bNot (bTru (dCall F_is_item (dCons (dVar 1) dNil))))
def E_is_items_2 : Den :=
  (dVar 1)
def T_is_items_2 : DenB :=
  (bVal (d2 gEq (d2 gIx (dVar 1) (dC (.int 0))) (dC (.str ("box" : Str)))))
def den_is_items : DenS :=
  (sSeq (sIf (bOr (bNot (bTruV 0)) (bTru (dLc [1] (iSeq (dVar 0)) (gName 1) T_is_items_1 E_is_items_1))) (sRet (dC (.bl false))) sNx)
    (sSeq (sIf (bOr (bVal (d2 gNe (d2 gIx (d2 gIx (dVar 0) (dNeg (dC (.int 1)))) (dC (.int 0))) (dC (.str ("penalty" : Str))))) (bVal (d2 gNe (d2 gIx (d2 gIx (dVar 0) (dNeg (dC (.int 1)))) (dC (.int 2))) (dC c_FORCED)))) (sRet (dC (.bl false))) sNx)
    (sRet (d2 gGt (dN gLenN (dCons (dLc [1] (iSeq (dVar 0)) (gName 1) T_is_items_2 E_is_items_2) dNil)) (dC (.int 0))))))
def F_is_items : List PV → FR := runD false false 1 2 den_is_items
def den_check_items : DenS :=
  (sIf (bNot (bTru (dCall F_is_items (dCons (dVar 0) dNil)))) (sRaise ("InvalidItems" : Str) "what" (dC (.str ("form" : Str)))) sNx)
def F_check_items : List PV → FR := runD false false 1 1 den_check_items
def E_check_paragraph_1 : Den :=
  (dVar 2)
def T_check_paragraph_1 : DenB :=
  (bVal (d2 gLt (dVar 2) (dC (.int 1))))
def den_check_paragraph : DenS :=
  (sSeq (sExpr (dCall F_check_items (dCons (dVar 0) dNil)))
    (sSeq (sIf (bOr (bNot (bTruV 1)) (bTru (dLc [2] (iSeq (dVar 1)) (gName 2) T_check_paragraph_1 E_check_paragraph_1))) (sRaise ("InvalidLength" : Str) "what" (dC (.str ("widths" : Str)))) sNx)
    (sIf (bVal (d2 gGt (dN gLenN (dCons (dVar 0) dNil)) (dC c_MOST_ITEMS))) (sRaise ("TooMany" : Str) "what" (dC (.str ("items" : Str)))) sNx)))
def F_check_paragraph : List PV → FR := runD false false 2 3 den_check_paragraph
def den_is_break : DenS :=
  (sSeq (sIf (bVal (d2 gEq (d2 gIx (d2 gIx (dVar 0) (dVar 1)) (dC (.int 0))) (dC (.str ("penalty" : Str))))) (sRet (d2 gLt (d2 gIx (d2 gIx (dVar 0) (dVar 1)) (dC (.int 2))) (dC c_NEVER))) sNx)
    (sRet (dAndT (d2 gEq (d2 gIx (d2 gIx (dVar 0) (dVar 1)) (dC (.int 0))) (dC (.str ("glue" : Str)))) (dAndT (d2 gGt (dVar 1) (dC (.int 0))) (d2 gEq (d2 gIx (d2 gIx (dVar 0) (dSub (dVar 1) (dC (.int 1)))) (dC (.int 0))) (dC (.str ("box" : Str))))))))
def F_is_break : List PV → FR := runD false false 2 2 den_is_break
def E_all_breaks_1 : Den :=
  (dVar 1)
def T_all_breaks_1 : DenB :=
  (bTru (dCall F_is_break (dCons (dVar 0) (dCons (dVar 1) dNil))))
def den_all_breaks : DenS :=
  (sRet (dLc [1] (iR1 (dCons (dN gLenN (dCons (dVar 0) dNil)) dNil)) (gName 1) T_all_breaks_1 E_all_breaks_1))
def F_all_breaks : List PV → FR := runD false false 1 2 den_all_breaks
def den_is_forced : DenS :=
  (sRet (dAndT (d2 gEq (d2 gIx (d2 gIx (dVar 0) (dVar 1)) (dC (.int 0))) (dC (.str ("penalty" : Str)))) (d2 gEq (d2 gIx (d2 gIx (dVar 0) (dVar 1)) (dC (.int 2))) (dC c_FORCED))))
def F_is_forced : List PV → FR := runD false false 2 2 den_is_forced
def E_line_between_1 : Den :=
  (dVar 4)
def T_line_between_1 : DenB :=
  (bTru (dCall F_is_forced (dCons (dVar 0) (dCons (dVar 4) dNil))))
def B_line_between_2 : DenS :=
  (sSet 3 (dSl gSl (dVar 3) (oSome (dC (.int 1))) oNone))
def den_line_between : DenS :=
  (sSeq (sSet 3 (dN gListOf (dCons (dSl gSl (dVar 0) (oSome (dAdd (dVar 1) (dC (.int 1)))) (oSome (dVar 2))) dNil)))
    (sSeq (sIf (bTru (dLc [4] (iR2 (dCons (dAdd (dVar 1) (dC (.int 1))) (dCons (dVar 2) dNil))) (gName 4) T_line_between_1 E_line_between_1)) (sRet (dC .non)) sNx)
    (sSeq (sWhile (muLen 3) (bAnd (bTruV 3) (bVal (d2 gNe (d2 gIx (d2 gIx (dVar 3) (dC (.int 0))) (dC (.int 0))) (dC (.str ("box" : Str)))))) B_line_between_2)
    (sRet (dIf (bTruV 3) (dVar 3) (dC .non))))))
def F_line_between : List PV → FR := runD false false 3 5 den_line_between
def E_sums_of_1 : Den :=
  (d2 gIx (dVar 5) (dC (.int 1)))
def T_sums_of_1 : DenB :=
  (bVal (d2 gNe (d2 gIx (dVar 5) (dC (.int 0))) (dC (.str ("penalty" : Str)))))
def E_sums_of_2 : Den :=
  (dVar 5)
def T_sums_of_2 : DenB :=
  (bVal (d2 gEq (d2 gIx (dVar 5) (dC (.int 0))) (dC (.str ("glue" : Str)))))
def E_sums_of_3 : Den :=
  (d2 gIx (dVar 5) (dC (.int 3)))
def E_sums_of_4 : Den :=
  (d2 gIx (dVar 5) (dC (.int 2)))
def den_sums_of : DenS :=
  (sSeq (sSet 3 (dN gSumN (dCons (dLc [5] (iSeq (dVar 1)) (gName 5) T_sums_of_1 E_sums_of_1) dNil)))
    (sSeq (sIf (bVal (d2 gEq (d2 gIx (d2 gIx (dVar 0) (dVar 2)) (dC (.int 0))) (dC (.str ("penalty" : Str))))) (sAug 3 gAugAdd (d2 gIx (d2 gIx (dVar 0) (dVar 2)) (dC (.int 1)))) sNx)
    (sSeq (sSet 4 (dLc [5] (iSeq (dVar 1)) (gName 5) T_sums_of_2 E_sums_of_2))
    (sRet (dTup (dCons (dVar 3) (dCons (dN gSumN (dCons (dLc [5] (iSeq (dVar 4)) (gName 5) bYes E_sums_of_4) dNil)) (dCons (dN gSumN (dCons (dLc [5] (iSeq (dVar 4)) (gName 5) bYes E_sums_of_3) dNil)) dNil))))))))
def F_sums_of : List PV → FR := runD false false 3 6 den_sums_of
def den_left_over : DenS :=
  (sSeq (sSet 4 (dCall F_line_between (dCons (dVar 0) (dCons (dVar 1) (dCons (dVar 2) dNil)))))
    (sSeq (sIf (bVal (d2 (gIsN false) (dVar 4) (dC .non))) (sRet (dC .non)) sNx)
    (sSeq (sSet 5 (dSub (dVar 3) (d2 gIx (dCall F_sums_of (dCons (dVar 0) (dCons (dVar 4) (dCons (dVar 2) dNil)))) (dC (.int 0)))))
    (sRet (dIf (bVal (d2 gGe (dVar 5) (dC (.int 0)))) (dVar 5) (dC .non))))))
def F_left_over : List PV → FR := runD false false 4 6 den_left_over
def den_width_at : DenS :=
  (sRet (d2 gIx (dVar 0) (dN gMin2 (dCons (dVar 1) (dCons (dSub (dN gLenN (dCons (dVar 0) dNil)) (dC (.int 1))) dNil)))))
def F_width_at : List PV → FR := runD false false 2 2 den_width_at
def B_best_ragged_2 : DenS :=
  (sIf (bVal (d2 gLt (dVar 7) (dVar 5))) (sSeq (sSet 8 (dCall F_left_over (dCons (dVar 0) (dCons (dVar 7) (dCons (dVar 5) (dCons (dCall F_width_at (dCons (dVar 1) (dCons (dVar 6) dNil))) dNil))))))
    (sIf (bVal (d2 (gIsN true) (dVar 8) (dC .non))) (sSeq (sAsg (d2l gDG 4 (dTup (dCons (dVar 6) (dCons (dVar 7) dNil)))) (gTup (gsCons (gName 9) (gsCons (gName 10) gsNil))))
    (sSeq (sSet 11 (dTup (dCons (dAdd (dVar 9) (dIf (bVal (d2 gEq (dVar 5) (dVar 3))) (dC (.int 0)) (dMul (dVar 8) (dVar 8)))) (dCons (dAdd (dVar 10) (dLst (dCons (dVar 5) dNil))) dNil))))
    (sIf (bOr (bVal (d2r (gDHas true) (dTup (dCons (dAdd (dVar 6) (dC (.int 1))) (dCons (dVar 5) dNil))) 4)) (bVal (d2 gLtD (dVar 11) (d2l gDG 4 (dTup (dCons (dAdd (dVar 6) (dC (.int 1))) (dCons (dVar 5) dNil))))))) (sPutD 4 (dTup (dCons (dAdd (dVar 6) (dC (.int 1))) (dCons (dVar 5) dNil))) (dVar 11)) sNx))) sNx)) sNx)
def B_best_ragged_1 : DenS :=
  (sFor (iSeq (dSortDTv 4)) (gTup (gsCons (gName 6) (gsCons (gName 7) gsNil))) B_best_ragged_2)
def E_best_ragged_3 : Den :=
  (d2l gDG 4 (dVar 13))
def T_best_ragged_3 : DenB :=
  (bVal (d2 gEq (d2 gIx (dVar 13) (dC (.int 1))) (dVar 3)))
def den_best_ragged : DenS :=
  (sSeq (sExpr (dCall F_check_paragraph (dCons (dVar 0) (dCons (dVar 1) dNil))))
    (sSeq (sSet 2 (dCall F_all_breaks (dCons (dVar 0) dNil)))
    (sSeq (sSet 3 (dSub (dN gLenN (dCons (dVar 0) dNil)) (dC (.int 1))))
    (sSeq (sSetF 4 (dDispT [((dTup (dCons (dC (.int 0)) (dCons (dNeg (dC (.int 1))) dNil))), (dTup (dCons (dC (.int 0)) (dCons (dLst dNil) dNil))))]))
    (sSeq (sFor (iSeq (dVar 2)) (gName 5) B_best_ragged_1)
    (sSeq (sSet 12 (dLcD [13] 4 (gName 13) T_best_ragged_3 E_best_ragged_3))
    (sRet (dIf (bTruV 12) (dN gMinD (dCons (dVar 12) dNil)) (dC .non)))))))))
def F_best_ragged : List PV → FR := runD false false 2 14 den_best_ragged
def den_check_columns : DenS :=
  (sSeq (sExpr (dCall F_check_rows (dCons (dVar 0) dNil)))
    (sIf (bVal (d2 gLt (dVar 1) (dC (.int 1)))) (sRaise ("InvalidPages" : Str) "what" (dC (.str ("columns" : Str)))) sNx))
def F_check_columns : List PV → FR := runD false false 2 2 den_check_columns
def B_filled_columns_1 : DenS :=
  (sSeq (sSet 6 (dMeth ("Pages" : Str) ("ends" : Str) F_Pages_ends (dVar 3) (dCons (dVar 5) dNil)))
    (sSeq (sIf (bOr (bNot (bTruV 6)) (bVal (d2 gEq (d1v gLen 4) (dVar 1)))) (sRet (dC .non)) sNx)
    (sSeq (sSet 5 (d2 gIx (d2 gIx (dVar 6) (dNeg (dC (.int 1)))) (dC (.int 0))))
    (sExpr (dMut "list" gAppend 4 (dCons (dVar 5) dNil))))))
def den_filled_columns : DenS :=
  (sSeq (sSet 3 (dMake ("Pages" : Str) F_Pages___init__ (dCons (dVar 0) (dCons (dVar 2) (dCons (dC (.int 0)) dNil)))))
    (sSeq (sSetF 4 (dLst dNil))
    (sSeq (sSet 5 (dC (.int 0)))
    (sSeq (sWhile (muD 0 5) (bVal (d2 gLt (dVar 5) (dN gLenN (dCons (dVar 0) dNil)))) B_filled_columns_1)
    (sRet (dVar 4))))))
def F_filled_columns : List PV → FR := runD false false 3 7 den_filled_columns
def B_used_1 : DenS :=
  (sExpr (dMut "list" gExtendU 2 (dCons (d2 gIx (dVar 3) (dC (.int 3))) dNil)))
def E_used_2 : Den :=
  (dAdd (d2 gIx (dVar 3) (dC (.int 0))) (d2 gIx (dVar 3) (dC (.int 1))))
def den_used : DenS :=
  (sSeq (sIf (bNot (bTruV 0)) (sRet (dC (.int 0))) sNx)
    (sSeq (sSetF 2 (dLst dNil))
    (sSeq (sFor (iSeq (dVar 0)) (gName 3) B_used_1)
    (sSeq (sSet 4 (dSub (dN gSumN (dCons (dLc [3] (iSeq (dVar 0)) (gName 3) bYes E_used_2) dNil)) (d2 gIx (d2 gIx (dVar 0) (dC (.int 0))) (dC (.int 1)))))
    (sRet (dAdd (dAdd (dVar 4) (dN gSumU (dCons (dVar 2) dNil))) (dMul (dVar 1) (dN gInt (dCons (d2 gGt (d1v gLen 2) (dC (.int 0))) dNil)))))))))
def F_used : List PV → FR := runD false false 2 5 den_used
def E_balanced_3 : Den :=
  (d2 gIx (dVar 8) (dC (.int 1)))
def B_balanced_2 : DenS :=
  (sPutD 2 (dVar 5) (dC (.bl true)))
def B_balanced_1 : DenS :=
  (sFor (iSeq (dMeth ("Pages" : Str) ("ends" : Str) F_Pages_ends (dMake ("Pages" : Str) F_Pages___init__ (dCons (dVar 0) (dCons (dAdd (dCall F_used (dCons (dVar 0) (dCons (dC (.int 0)) dNil))) (dN gSumN (dCons (dLc [8] (iSeq (dVar 0)) (gName 8) bYes E_balanced_3) dNil))) (dCons (dC (.int 0)) dNil)))) (dCons (dVar 3) dNil))) (gTup (gsCons (gName 4) (gsCons (gName 5) gsNil))) B_balanced_2)
def B_balanced_4 : DenS :=
  (sSeq (sSet 7 (dCall F_filled_columns (dCons (dVar 0) (dCons (dVar 1) (dCons (dVar 6) dNil)))))
    (sIf (bVal (d2 (gIsN true) (dVar 7) (dC .non))) (sRet (dTup (dCons (dVar 6) (dCons (dVar 7) dNil)))) sNx))
def den_balanced : DenS :=
  (sSeq (sExpr (dCall F_check_columns (dCons (dVar 0) (dCons (dVar 1) dNil))))
    (sSeq (sIf (bNot (bTruV 0)) (sRet (dTup (dCons (dC (.int 0)) (dCons (dLst dNil) dNil)))) sNx)
    (sSeq (sSetF 2 (dC (.dic false [] [])))
    (sSeq (sFor (iR1 (dCons (dN gLenN (dCons (dVar 0) dNil)) dNil)) (gName 3) B_balanced_1)
    (sSeq (sFor (iSeq (dSortDK (dVar 2))) (gName 6) B_balanced_4)
    (sRet (dC .non)))))))
def F_balanced : List PV → FR := runD false false 2 9 den_balanced
abbrev F__law_take := F_take
def B_first_fit_1 : DenS :=
  (sSeq (sSet 6 (dMeth ("Pages" : Str) ("ends" : Str) F_Pages_ends (dVar 3) (dCons (dVar 5) dNil)))
    (sSeq (sIf (bNot (bTruV 6)) (sRet (dC .non)) sNx)
    (sSeq (sSet 5 (d2 gIx (d2 gIx (dVar 6) (dNeg (dC (.int 1)))) (dC (.int 0))))
    (sExpr (dMut "list" gAppend 4 (dCons (dVar 5) dNil))))))
def den_first_fit : DenS :=
  (sSeq (sExpr (dCall F_check_heights (dCons (dVar 0) (dCons (dVar 1) (dCons (dVar 2) dNil)))))
    (sSeq (sSet 3 (dMake ("Pages" : Str) F_Pages___init__ (dCons (dVar 0) (dCons (dVar 1) (dCons (dVar 2) dNil)))))
    (sSeq (sSetF 4 (dLst dNil))
    (sSeq (sSet 5 (dC (.int 0)))
    (sSeq (sWhile (muD 0 5) (bVal (d2 gLt (dVar 5) (dN gLenN (dCons (dVar 0) dNil)))) B_first_fit_1)
    (sRet (dVar 4)))))))
def F_first_fit : List PV → FR := runD false false 3 7 den_first_fit
def E_filled_ragged_2 : Den :=
  (dVar 7)
def T_filled_ragged_2 : DenB :=
  (bAnd (bVal (d2 gGt (dVar 7) (dVar 4))) (bVal (d2 (gIsN true) (dCall F_left_over (dCons (dVar 0) (dCons (dVar 4) (dCons (dVar 7) (dCons (dVar 5) dNil))))) (dC .non))))
def B_filled_ragged_1 : DenS :=
  (sSeq (sSet 5 (dCall F_width_at (dCons (dVar 1) (dCons (d1v gLen 3) dNil))))
    (sSeq (sSet 6 (dLc [7] (iSeq (dVar 2)) (gName 7) T_filled_ragged_2 E_filled_ragged_2))
    (sSeq (sIf (bNot (bTruV 6)) (sRet (dC .non)) sNx)
    (sSeq (sSet 4 (d2 gIx (dVar 6) (dNeg (dC (.int 1)))))
    (sExpr (dMut "list" gAppend 3 (dCons (dVar 4) dNil)))))))
def den_filled_ragged : DenS :=
  (sSeq (sExpr (dCall F_check_paragraph (dCons (dVar 0) (dCons (dVar 1) dNil))))
    (sSeq (sSet 2 (dCall F_all_breaks (dCons (dVar 0) dNil)))
    (sSeq (sSetF 3 (dLst dNil))
    (sSeq (sSet 4 (dNeg (dC (.int 1))))
    (sSeq (sWhile (muD 0 4) (bVal (d2 gNe (dVar 4) (dSub (dN gLenN (dCons (dVar 0) dNil)) (dC (.int 1))))) B_filled_ragged_1)
    (sRet (dVar 3)))))))
def F_filled_ragged : List PV → FR := runD false false 2 8 den_filled_ragged
def E_least_lines_2 : Den :=
  (dAdd (d2l gDG 3 (dVar 6)) (dC (.int 1)))
def T_least_lines_2 : DenB :=
  (bAnd (bVal (d2 gLt (dVar 6) (dVar 4))) (bVal (d2 (gIsN true) (dCall F_left_over (dCons (dVar 0) (dCons (dVar 6) (dCons (dVar 4) (dCons (d2 gIx (dVar 1) (dC (.int 0))) dNil))))) (dC .non))))
def B_least_lines_1 : DenS :=
  (sSeq (sSet 5 (dPeekL (dLcD [6] 3 (gName 6) T_least_lines_2 E_least_lines_2)))
    (sIf (bTruV 5) (sPutD 3 (dVar 4) (dN gMinD (dCons (dVar 5) dNil))) sNx))
def den_least_lines : DenS :=
  (sSeq (sExpr (dCall F_check_paragraph (dCons (dVar 0) (dCons (dVar 1) dNil))))
    (sSeq (sIf (bVal (d2 gNe (dN gLenN (dCons (dVar 1) dNil)) (dC (.int 1)))) (sRaise ("InvalidLength" : Str) "what" (dC (.str ("widths" : Str)))) sNx)
    (sSeq (sSet 2 (dCall F_all_breaks (dCons (dVar 0) dNil)))
    (sSeq (sSetF 3 (dDisp [((dNeg (dC (.int 1))), (dC (.int 0)))]))
    (sSeq (sFor (iSeq (dVar 2)) (gName 4) B_least_lines_1)
    (sRet (dGet1v 3 (dSub (dN gLenN (dCons (dVar 0) dNil)) (dC (.int 1))))))))))
def F_least_lines : List PV → FR := runD false false 2 7 den_least_lines
abbrev F__law_plain_ := F_plain_
abbrev F__law_plain : List PV → FR := F__law_plain_ 5
def den_least_height : DenS :=
  (sSeq (sSet 2 (dCall F_balanced (dCons (dVar 0) (dCons (dVar 1) dNil))))
    (sRet (dIf (bVal (d2 (gIsN false) (dVar 2) (dC .non))) (dC .non) (d2 gIx (dVar 2) (dC (.int 0))))))
def F_least_height : List PV → FR := runD false false 2 3 den_least_height
def E_law_1 : Den :=
  (dTup (dCons (dAdd (dC (.int 1)) (dCallIo F__law_take 1 (dCons (dC (.int 6)) dNil))) (dCons (dCallIo F__law_take 1 (dCons (dC (.int 4)) dNil)) (dCons (dC (.int 0)) (dCons (dTup dNil) dNil)))))
def E_law_2 : Den :=
  (d2 gIx (dVar 14) (dC (.int 0)))
def E_law_3 : Den :=
  (dFdivW (dAdd (dVar 15) (dC (.int 1))) (dC (.int 2)))
def E_law_4 : Den :=
  (dFdivW (dAdd (dVar 15) (dC (.int 1))) (dC (.int 2)))
def E_law_5 : Den :=
  (d2 gIx (dVar 14) (dC (.int 0)))
def B_law_6 : DenS :=
  (sSet 11 (dAdd (dVar 11) (dC (.int 1))))
def E_law_7 : Den :=
  (dFdivW (dAdd (dVar 15) (dC (.int 1))) (dC (.int 2)))
def den_law : DenS :=
  (sSeq (sSetF 1 (dCall F__law_deck (dCons (dVar 0) (dCons (dC (.int 60)) (dCons (dC (.int 14)) dNil)))))
    (sSeq (sSet 2 (dLc [13] (iR1 (dCons (dAdd (dC (.int 1)) (dCallIo F__law_take 1 (dCons (dC (.int 8)) dNil))) dNil)) (gName 13) bYes E_law_1))
    (sSeq (sSet 3 (dCall F__law_items (dCons (dVar 2) dNil)))
    (sSeq (sSet 4 (dAdd (dC (.int 1)) (dCallIo F__law_take 1 (dCons (dC (.int 20)) dNil))))
    (sSeq (sSet 5 (dCall F_best_pages (dCons (dVar 2) (dCons (dVar 4) (dCons (dC (.int 0)) dNil)))))
    (sSeq (sSet 6 (dCall F_best_ragged (dCons (dVar 3) (dCons (dLst (dCons (dVar 4) dNil)) dNil))))
    (sSeq (sIf (bOr (bVal (d2 gNe (d2 (gIsN false) (dVar 5) (dC .non)) (d2 (gIsN false) (dVar 6) (dC .non)))) (bVal (d2 gNe (d2 (gIsN false) (dVar 5) (dC .non)) (d2 gGt (dN gMaxD (dCons (dLc [14] (iSeq (dVar 2)) (gName 14) bYes E_law_2) dNil)) (dVar 4))))) (sRet (dC (.bl false))) sNx)
    (sSeq (sIf (bVal (d2 (gIsN true) (dVar 5) (dC .non))) (sSeq (sSet 7 (dLc [15] (iSeq (d2 gIx (dVar 6) (dC (.int 1)))) (gName 15) bYes E_law_3))
    (sSeq (sIf (bVal (d2 gNe (dCall F__law_plain (dCons (dTup (dCons (dVar 7) (dCons (d2 gIx (dVar 6) (dC (.int 0))) dNil))) dNil)) (dCall F__law_plain (dCons (dVar 5) dNil)))) (sRet (dC (.bl false))) sNx)
    (sSeq (sSet 8 (dCall F_first_fit (dCons (dVar 2) (dCons (dVar 4) (dCons (dC (.int 0)) dNil)))))
    (sSeq (sSet 9 (dCall F_filled_ragged (dCons (dVar 3) (dCons (dLst (dCons (dVar 4) dNil)) dNil))))
    (sIf (bOr (bVal (d2 gNe (dLc [15] (iSeq (dVar 9)) (gName 15) bYes E_law_4) (dVar 8))) (bVal (d2 gNe (dCall F_least_lines (dCons (dVar 3) (dCons (dLst (dCons (dVar 4) dNil)) dNil))) (dN gLenN (dCons (dVar 8) dNil))))) (sRet (dC (.bl false))) sNx))))) sNx)
    (sSeq (sSet 10 (dAdd (dC (.int 1)) (dCallIo F__law_take 1 (dCons (dC (.int 4)) dNil))))
    (sSeq (sSet 11 (dN gMaxD (dCons (dLc [14] (iSeq (dVar 2)) (gName 14) bYes E_law_5) dNil)))
    (sSeq (sWhile (fun _ => 2000) (bVal (d2 gGt (dCall F_least_lines (dCons (dVar 3) (dCons (dLst (dCons (dVar 11) dNil)) dNil))) (dVar 10))) B_law_6)
    (sSeq (sIf (bVal (d2 gNe (dCall F__law_plain (dCons (dCall F_least_height (dCons (dVar 2) (dCons (dVar 10) dNil))) dNil)) (dCall F__law_plain (dCons (dVar 11) dNil)))) (sRet (dC (.bl false))) sNx)
    (sSeq (sSet 12 (dCall F_balanced (dCons (dVar 2) (dCons (dVar 10) dNil))))
    (sRet (d2 gEq (dVar 12) (dTup (dCons (dVar 11) (dCons (dLc [15] (iSeq (dCall F_filled_ragged (dCons (dVar 3) (dCons (dLst (dCons (dVar 11) dNil)) dNil)))) (gName 15) bYes E_law_7) dNil))))))))))))))))))
def F_law : List PV → FR := runD false false 1 16 den_law
section
variable {P : Program} {w : World} {K : PySem.W.Frag} {mg : Str → Option Value} {base : Heap}
abbrev i_InvalidItems : Stmt := inClass (top 3) 0
theorem sc_i_InvalidItems : FnScope [("self" : Str), ("what" : Str)] [("self" : Str), ("what" : Str)] (defScope i_InvalidItems) := ⟨rfl, rfl, rfl, by decide +kernel, rfl, by decide +kernel, by decide +kernel⟩
theorem E_InvalidItems {fd : FuncData} (E : EcK K ("InvalidItems" : Str) "what") (hm : mg ("InvalidItems" : Str) = some (.ref (He.ga K ("InvalidItems" : Str)))) (T : PeK K "PressError") (hp : mg "PressError" = some (.ref (He.ga K "PressError"))) (F : FnP K "__init__" "InvalidItems.__init__" i_InvalidItems (He.ma K (He.ga K ("InvalidItems" : Str)) "__init__") fd) : Ec P w K mg base ("InvalidItems" : Str) "what" :=
  ec_ok (txt := ("invalid items: " : Str)) E hm F sc_i_InvalidItems (fun _ _ _ _ _ _ us hl => match us, hl with | [_, _], _ => rfl) (by decide) fun cdv A outer s H E =>
    pss_cons (ps_expr (pe_baseinit T rfl hp (pa_cons (pv 0) (pa_cons (pe_op op_add_str pe_str (pv 1)) pa_nil)))) (pss_one (ps_ost (pv 0) (pv 1)))
abbrev i_InvalidLength : Stmt := inClass (top 2) 0
theorem sc_i_InvalidLength : FnScope [("self" : Str), ("what" : Str)] [("self" : Str), ("what" : Str)] (defScope i_InvalidLength) := ⟨rfl, rfl, rfl, by decide +kernel, rfl, by decide +kernel, by decide +kernel⟩
theorem E_InvalidLength {fd : FuncData} (E : EcK K ("InvalidLength" : Str) "what") (hm : mg ("InvalidLength" : Str) = some (.ref (He.ga K ("InvalidLength" : Str)))) (T : PeK K "PressError") (hp : mg "PressError" = some (.ref (He.ga K "PressError"))) (F : FnP K "__init__" "InvalidLength.__init__" i_InvalidLength (He.ma K (He.ga K ("InvalidLength" : Str)) "__init__") fd) : Ec P w K mg base ("InvalidLength" : Str) "what" :=
  ec_ok (txt := ("invalid length: " : Str)) E hm F sc_i_InvalidLength (fun _ _ _ _ _ _ us hl => match us, hl with | [_, _], _ => rfl) (by decide) fun cdv A outer s H E =>
    pss_cons (ps_expr (pe_baseinit T rfl hp (pa_cons (pv 0) (pa_cons (pe_op op_add_str pe_str (pv 1)) pa_nil)))) (pss_one (ps_ost (pv 0) (pv 1)))
abbrev i_InvalidPages : Stmt := inClass (top 4) 0
theorem sc_i_InvalidPages : FnScope [("self" : Str), ("what" : Str)] [("self" : Str), ("what" : Str)] (defScope i_InvalidPages) := ⟨rfl, rfl, rfl, by decide +kernel, rfl, by decide +kernel, by decide +kernel⟩
theorem E_InvalidPages {fd : FuncData} (E : EcK K ("InvalidPages" : Str) "what") (hm : mg ("InvalidPages" : Str) = some (.ref (He.ga K ("InvalidPages" : Str)))) (T : PeK K "PressError") (hp : mg "PressError" = some (.ref (He.ga K "PressError"))) (F : FnP K "__init__" "InvalidPages.__init__" i_InvalidPages (He.ma K (He.ga K ("InvalidPages" : Str)) "__init__") fd) : Ec P w K mg base ("InvalidPages" : Str) "what" :=
  ec_ok (txt := ("invalid pages: " : Str)) E hm F sc_i_InvalidPages (fun _ _ _ _ _ _ us hl => match us, hl with | [_, _], _ => rfl) (by decide) fun cdv A outer s H E =>
    pss_cons (ps_expr (pe_baseinit T rfl hp (pa_cons (pv 0) (pa_cons (pe_op op_add_str pe_str (pv 1)) pa_nil)))) (pss_one (ps_ost (pv 0) (pv 1)))
abbrev i_TooMany : Stmt := inClass (top 5) 0
theorem sc_i_TooMany : FnScope [("self" : Str), ("what" : Str)] [("self" : Str), ("what" : Str)] (defScope i_TooMany) := ⟨rfl, rfl, rfl, by decide +kernel, rfl, by decide +kernel, by decide +kernel⟩
theorem E_TooMany {fd : FuncData} (E : EcK K ("TooMany" : Str) "what") (hm : mg ("TooMany" : Str) = some (.ref (He.ga K ("TooMany" : Str)))) (T : PeK K "PressError") (hp : mg "PressError" = some (.ref (He.ga K "PressError"))) (F : FnP K "__init__" "TooMany.__init__" i_TooMany (He.ma K (He.ga K ("TooMany" : Str)) "__init__") fd) : Ec P w K mg base ("TooMany" : Str) "what" :=
  ec_ok (txt := ("too many " : Str)) E hm F sc_i_TooMany (fun _ _ _ _ _ _ us hl => match us, hl with | [_, _], _ => rfl) (by decide) fun cdv A outer s H E =>
    pss_cons (ps_expr (pe_baseinit T rfl hp (pa_cons (pv 0) (pa_cons (pe_op op_add_str pe_str (pv 1)) pa_nil)))) (pss_one (ps_ost (pv 0) (pv 1)))
theorem sc__law_deck : FnScope [("script" : Str), ("cells" : Str), ("each" : Str), ("deck" : Str), ("seed" : Str), ("k" : Str), ("cell" : Str), ("rest" : Str), ("at" : Str)] [("script" : Str), ("cells" : Str), ("each" : Str)] (defScope s__law_deck) := ⟨rfl, rfl, rfl, by decide +kernel, rfl, by decide +kernel, by decide +kernel⟩
theorem G__law_deck {f : Addr} {fd : FuncData} (B : Bi mg) (F : FnP K ("_law_deck" : Str) ("_law_deck" : Str) s__law_deck f fd) (hm : mg ("_law_deck" : Str) = some (.ref f)) : Fd P w K mg base ("_law_deck" : Str) 1 false true 3 F__law_deck := by
  exact fd_okD (k := 0) F hm sc__law_deck (fun _ _ _ _ _ _ us hl => match us, hl with | [_, _, _], _ => rfl) (by decide) fun cdv A outer s H E c po =>
    (dss_cons (ds_setF c 3 (df_lst da_nil))
    (dss_cons (ds_set c 4 (de_add de_int (de_len B (da_cons (de_var 0) da_nil))))
    (dss_cons (ds_for po c (di_r1 B (da_cons (de_var 1) da_nil)) (dg_name c 5) (dss_cons (ds_set c 6 de_int)
    (dss_cons (ds_if (dt_cmp cr_lt (de_var 5) (de_len B (da_cons (de_var 0) da_nil))) (dss_one (ds_set c 6 (de_ix (de_var 0) (de_var 5)))) dss_nil)
    (dss_cons (ds_set c 7 (de_abs B (da_cons (de_var 6) da_nil)))
    (dss_one (ds_if (dt_cmp cr_ge (de_var 7) (de_pow de_int de_int)) (dss_one (ds_for po c (di_r1 B (da_cons (de_var 2) da_nil)) (dg_name c 8) (dss_cons (ds_expr (de_append 3 (pv 3) (da_cons (de_mod (de_toint B (da_cons (de_var 7) da_nil)) de_int) da_nil)))
    (dss_one (ds_set c 7 (de_fdiv (de_var 7) de_int)))))) (dss_cons (ds_set c 4 (de_mod (de_toint B (da_cons (de_add (de_add (de_add (de_mul (de_var 4) de_int) (de_mul de_int (de_var 7))) (de_toint B (da_cons (de_cmp cr_lt (de_var 6) de_int) da_nil))) (de_var 5)) da_nil)) de_int))
    (dss_one (ds_for po c (di_r1 B (da_cons (de_var 2) da_nil)) (dg_name c 8) (dss_cons (ds_set c 4 (de_mod (de_toint B (da_cons (de_add (de_add (de_mul (de_var 4) de_int) (de_var 8)) de_int) da_nil)) de_int))
    (dss_one (ds_expr (de_append 3 (pv 3) (da_cons (de_mod (de_toint B (da_cons (de_fdiv (de_var 4) de_int) da_nil)) de_int) da_nil))))))))))))))
    (dss_cons (ds_expr (de_reverse 3 (pv 3)))
    (dss_one (ds_retO 3 (pv 3)))))))
theorem sc__law_items : FnScope [("rows" : Str), ("found" : Str), ("height" : Str), ("gap" : Str), ("cost" : Str), ("notes" : Str)] [("rows" : Str)] (defScope s__law_items) := ⟨rfl, rfl, rfl, by decide +kernel, rfl, by decide +kernel, by decide +kernel⟩
theorem G__law_items {f : Addr} {fd : FuncData} (B : Bi mg) (F : FnP K ("_law_items" : Str) ("_law_items" : Str) s__law_items f fd) (hm : mg ("_law_items" : Str) = some (.ref f)) : Fd P w K mg base ("_law_items" : Str) 1 false false 1 F__law_items := by
  exact fd_okD (k := 0) F hm sc__law_items (fun _ _ _ _ _ _ us hl => match us, hl with | [_], _ => rfl) (by decide) fun cdv A outer s H E c po =>
    (dss_cons (ds_setF c 1 (df_lst da_nil))
    (dss_cons (ds_for po c (di_seq (de_var 0)) (dg_tup c (dgs_cons (dg_name c 2) (dgs_cons (dg_name c 3) (dgs_cons (dg_name c 4) (dgs_cons (dg_name c 5) dgs_nil))))) (dss_cons (ds_if (dt_cmp cr_gt (de_lenv B 1 (pv 1)) de_int) (dss_one (ds_expr (de_append 1 (pv 1) (da_cons (de_tup (da_cons de_str (da_cons (de_var 3) (da_cons de_int (da_cons de_int da_nil))))) da_nil)))) dss_nil)
    (dss_one (ds_expr (de_append 1 (pv 1) (da_cons (de_tup (da_cons de_str (da_cons (de_var 2) (da_cons de_str da_nil)))) da_nil))))))
    (dss_one (ds_ret (de_add (de_var 1) (DF.sh (df_lst (da_cons (de_tup (da_cons de_str (da_cons de_int (da_cons (de_neg de_int) (da_cons de_bl da_nil))))) da_nil))))))))
theorem sc_Pages___init__ : FnScope [("self" : Str), ("rows" : Str), ("height" : Str), ("rule" : Str)] [("self" : Str), ("rows" : Str), ("height" : Str), ("rule" : Str)] (defScope s_Pages___init__) := ⟨rfl, rfl, rfl, by decide +kernel, rfl, by decide +kernel, by decide +kernel⟩
theorem G_Pages___init__ {fd : FuncData} (B : Bi mg) (cl_Pages : Cls K (He.ga K ("Pages" : Str))) (na_Pages_count : NoAttr K (He.ga K ("Pages" : Str)) ("count" : Str)) (na_Pages_height : NoAttr K (He.ga K ("Pages" : Str)) ("height" : Str)) (na_Pages_rows : NoAttr K (He.ga K ("Pages" : Str)) ("rows" : Str)) (na_Pages_rule : NoAttr K (He.ga K ("Pages" : Str)) ("rule" : Str)) (F : FnP K "__init__" ("Pages.__init__" : Str) s_Pages___init__ (He.ma K (He.ga K ("Pages" : Str)) "__init__") fd) (mk : Mk K (He.ga K ("Pages" : Str)) (He.ma K (He.ga K ("Pages" : Str)) "__init__")) (hm : mg ("Pages" : Str) = some (.ref (He.ga K ("Pages" : Str)))) : Cn P w K mg base ("Pages" : Str) 1 4 F_Pages___init__ := by
  exact cn_okD (k := 0) F mk hm sc_Pages___init__ (fun _ _ _ _ _ _ us hl => match us, hl with | [_, _, _, _], _ => rfl) (by decide) fun cdv A outer s H E c po =>
    (dss_cons (ds_fld 0 cl_Pages na_Pages_rows (pv 0) (de_var 1))
    (dss_cons (ds_fld 0 cl_Pages na_Pages_height (pv 0) (de_var 2))
    (dss_cons (ds_fld 0 cl_Pages na_Pages_rule (pv 0) (de_var 3))
    (dss_one (ds_fld 0 cl_Pages na_Pages_count (pv 0) (de_len B (da_cons (de_var 1) da_nil)))))))
theorem sc_Pages_ends : FnScope [("self" : Str), ("start" : Str), ("found" : Str), ("total" : Str), ("ruled" : Str), ("end" : Str), ("height" : Str), ("gap" : Str), ("cost" : Str), ("notes" : Str)] [("self" : Str), ("start" : Str)] (defScope s_Pages_ends) := ⟨rfl, rfl, rfl, by decide +kernel, rfl, by decide +kernel, by decide +kernel⟩
theorem G_Pages_ends {fd : FuncData} (B : Bi mg) (cl_Pages : Cls K (He.ga K ("Pages" : Str))) (na_Pages_count : NoAttr K (He.ga K ("Pages" : Str)) ("count" : Str)) (na_Pages_height : NoAttr K (He.ga K ("Pages" : Str)) ("height" : Str)) (na_Pages_rows : NoAttr K (He.ga K ("Pages" : Str)) ("rows" : Str)) (na_Pages_rule : NoAttr K (He.ga K ("Pages" : Str)) ("rule" : Str)) (F : FnP K ("ends" : Str) ("Pages.ends" : Str) s_Pages_ends (He.ma K (He.ga K ("Pages" : Str)) ("ends" : Str)) fd) (mt : Meth K (He.ga K ("Pages" : Str)) ("ends" : Str) (He.ma K (He.ga K ("Pages" : Str)) ("ends" : Str))) : Md P w K mg base ("Pages" : Str) ("ends" : Str) 1 false 2 F_Pages_ends := by
  exact md_okD (k := 0) F cl_Pages mt sc_Pages_ends (fun _ _ _ _ _ _ us hl => match us, hl with | [_, _], _ => rfl) (by decide) fun cdv A outer s H E c po =>
    (dss_cons (ds_setF c 2 (df_lst da_nil))
    (dss_cons (ds_set c 3 de_int)
    (dss_cons (ds_set c 4 de_int)
    (dss_cons (ds_for po c (di_r2 B (da_cons (de_add (de_var 1) de_int) (da_cons (de_add (de_fld cl_Pages na_Pages_count (de_var 0)) de_int) da_nil))) (dg_name c 5) (dss_cons (ds_asg (de_ix (de_fld cl_Pages na_Pages_rows (de_var 0)) (de_sub (de_var 5) de_int)) (dg_tup c (dgs_cons (dg_name c 6) (dgs_cons (dg_name c 7) (dgs_cons (dg_name c 8) (dgs_cons (dg_name c 9) dgs_nil))))))
    (dss_cons (ds_set c 3 (de_add (de_add (de_add (de_var 3) (de_var 6)) (de_sumU c B (da_cons (de_var 9) da_nil))) (de_mul (de_var 7) (de_toint B (da_cons (de_cmp cr_gt (de_sub (de_var 5) de_int) (de_var 1)) da_nil)))))
    (dss_cons (ds_set c 4 (de_if (dt_truv 9 (pv 9)) (de_fld cl_Pages na_Pages_rule (de_var 0)) (de_var 4)))
    (dss_one (ds_if (dt_w (dw_or (dt_cmp (cr_eq c) (de_var 5) (de_fld cl_Pages na_Pages_count (de_var 0))) (dw_or1 (dt_cmp cr_isNot (de_var 8) de_non)))) (dss_one (ds_if (dt_cmp cr_le (de_add (de_var 3) (de_var 4)) (de_fld cl_Pages na_Pages_height (de_var 0))) (dss_one (ds_expr (de_append 2 (pv 2) (da_cons (de_tup (da_cons (de_var 5) (da_cons (de_add (de_var 3) (de_var 4)) da_nil))) da_nil)))) dss_nil)) dss_nil))))))
    (dss_one (ds_ret (de_var 2)))))))
theorem sc_Pages_badness : FnScope [("self" : Str), ("end" : Str), ("height" : Str), ("gap" : Str)] [("self" : Str), ("end" : Str), ("height" : Str)] (defScope s_Pages_badness) := ⟨rfl, rfl, rfl, by decide +kernel, rfl, by decide +kernel, by decide +kernel⟩
theorem G_Pages_badness {fd : FuncData} (B : Bi mg) (cl_Pages : Cls K (He.ga K ("Pages" : Str))) (na_Pages_count : NoAttr K (He.ga K ("Pages" : Str)) ("count" : Str)) (na_Pages_height : NoAttr K (He.ga K ("Pages" : Str)) ("height" : Str)) (na_Pages_rows : NoAttr K (He.ga K ("Pages" : Str)) ("rows" : Str)) (F : FnP K ("badness" : Str) ("Pages.badness" : Str) s_Pages_badness (He.ma K (He.ga K ("Pages" : Str)) ("badness" : Str)) fd) (mt : Meth K (He.ga K ("Pages" : Str)) ("badness" : Str) (He.ma K (He.ga K ("Pages" : Str)) ("badness" : Str))) : Md P w K mg base ("Pages" : Str) ("badness" : Str) 1 false 3 F_Pages_badness := by
  exact md_okD (k := 0) F cl_Pages mt sc_Pages_badness (fun _ _ _ _ _ _ us hl => match us, hl with | [_, _, _], _ => rfl) (by decide) fun cdv A outer s H E c po =>
    (dss_cons (ds_if (dt_cmp (cr_eq c) (de_var 1) (de_fld cl_Pages na_Pages_count (de_var 0))) (dss_one (ds_ret de_int)) dss_nil)
    (dss_cons (ds_set c 3 (de_sub (de_fld cl_Pages na_Pages_height (de_var 0)) (de_var 2)))
    (dss_one (ds_ret (de_add (de_mul (de_var 3) (de_var 3)) (de_ix (de_ix (de_fld cl_Pages na_Pages_rows (de_var 0)) (de_sub (de_var 1) de_int)) de_int))))))
theorem sc_Pages_least : FnScope [("self" : Str), ("found" : Str), ("start" : Str), ("sums" : Str), ("end" : Str), ("height" : Str)] [("self" : Str)] (defScope s_Pages_least) := ⟨rfl, rfl, rfl, by decide +kernel, rfl, by decide +kernel, by decide +kernel⟩
theorem G_Pages_least {fd : FuncData} (B : Bi mg) (G_Pages_ends : Md P w K mg base ("Pages" : Str) ("ends" : Str) 1 false 2 F_Pages_ends) (G_Pages_badness : Md P w K mg base ("Pages" : Str) ("badness" : Str) 1 false 3 F_Pages_badness) (cl_Pages : Cls K (He.ga K ("Pages" : Str))) (na_Pages_count : NoAttr K (He.ga K ("Pages" : Str)) ("count" : Str)) (F : FnP K ("least" : Str) ("Pages.least" : Str) s_Pages_least (He.ma K (He.ga K ("Pages" : Str)) ("least" : Str)) fd) (mt : Meth K (He.ga K ("Pages" : Str)) ("least" : Str) (He.ma K (He.ga K ("Pages" : Str)) ("least" : Str))) : Md P w K mg base ("Pages" : Str) ("least" : Str) 2 false 1 F_Pages_least := by
  exact md_okD (k := 1) F cl_Pages mt sc_Pages_least (fun _ _ _ _ _ _ us hl => match us, hl with | [_], _ => rfl) (by decide) fun cdv A outer s H E c po =>
    (dss_cons (ds_setF c 1 (df_cat (de_mul (DF.sh (df_lst (da_cons de_non da_nil))) (de_fld cl_Pages na_Pages_count (de_var 0))) (DF.sh (df_lst (da_cons de_int da_nil)))))
    (dss_cons (ds_for po c (di_r3 B (da_cons (de_sub (de_fld cl_Pages na_Pages_count (de_var 0)) de_int) (da_cons (de_neg de_int) (da_cons (de_neg de_int) da_nil)))) (dg_name c 2) (dss_cons (ds_setF c 3 (df_lst da_nil))
    (dss_cons (ds_for po c (di_seq (de_meth G_Pages_ends c (de_var 0) (da_cons (de_var 2) da_nil))) (dg_tup c (dgs_cons (dg_name c 4) (dgs_cons (dg_name c 5) dgs_nil))) (dss_one (ds_if (dt_cmp cr_isNot (de_ixv 1 (pv 1) (de_var 4)) de_non) (dss_one (ds_expr (de_append 3 (pv 3) (da_cons (de_add (de_ixv 1 (pv 1) (de_var 4)) (de_meth G_Pages_badness c (de_var 0) (da_cons (de_var 4) (da_cons (de_var 5) da_nil)))) da_nil)))) dss_nil)))
    (dss_one (ds_sub 1 (pv 1) (de_var 2) (de_if (dt_truv 3 (pv 3)) (de_minD c B (da_cons (de_var 3) da_nil)) de_non))))))
    (dss_one (ds_ret (de_var 1)))))
theorem sc_is_integer : FnScope [("number" : Str), ("least" : Str)] [("number" : Str), ("least" : Str)] (defScope s_is_integer) := ⟨rfl, rfl, rfl, by decide +kernel, rfl, by decide +kernel, by decide +kernel⟩
theorem G_is_integer {f : Addr} {fd : FuncData} (B : Bi mg) (F : FnP K ("is_integer" : Str) ("is_integer" : Str) s_is_integer f fd) (hm : mg ("is_integer" : Str) = some (.ref f)) : Fd P w K mg base ("is_integer" : Str) 1 false false 2 F_is_integer := by
  exact fd_okD (k := 0) F hm sc_is_integer (fun _ _ _ _ _ _ us hl => match us, hl with | [_, _], _ => rfl) (by decide) fun cdv A outer s H E c po =>
    (dss_one (ds_ret (de_and (de_isi "int" B (de_var 0) B.int (by decide +kernel)) (de_and (de_not (de_isi "bool" B (de_var 0) B.bool (by decide +kernel))) (de_oneA (de_cmp cr_ge (de_var 0) (de_var 1)))))))
theorem sc_is_row : FnScope [("row" : Str), ("height" : Str), ("gap" : Str), ("cost" : Str), ("notes" : Str), ("note" : Str)] [("row" : Str)] (defScope s_is_row) := ⟨rfl, rfl, rfl, by decide +kernel, rfl, by decide +kernel, by decide +kernel⟩
theorem G_is_row {f : Addr} {fd : FuncData} (B : Bi mg) (G_is_integer : Fd P w K mg base ("is_integer" : Str) 1 false false 2 F_is_integer) (F : FnP K ("is_row" : Str) ("is_row" : Str) s_is_row f fd) (hm : mg ("is_row" : Str) = some (.ref f)) : Fd P w K mg base ("is_row" : Str) 2 false false 1 F_is_row := by
  exact fd_okD (k := 1) F hm sc_is_row (fun _ _ _ _ _ _ us hl => match us, hl with | [_], _ => rfl) (by decide) fun cdv A outer s H E c po =>
    (dss_cons (ds_if (dt_w (dw_or (dt_not (dt_tru (de_isi "tuple" B (de_var 0) B.tuple (by decide +kernel)))) (dw_or1 (dt_cmp (cr_ne c) (de_len B (da_cons (de_var 0) da_nil)) de_int)))) (dss_one (ds_ret de_bl)) dss_nil)
    (dss_cons (ds_asg (de_var 0) (dg_tup c (dgs_cons (dg_name c 1) (dgs_cons (dg_name c 2) (dgs_cons (dg_name c 3) (dgs_cons (dg_name c 4) dgs_nil))))))
    (dss_cons (ds_if (dt_w (dw_or (dt_not (dt_tru (de_call G_is_integer c (da_cons (de_var 1) (da_cons de_int da_nil))))) (dw_or (dt_not (dt_tru (de_call G_is_integer c (da_cons (de_var 2) (da_cons de_int da_nil))))) (dw_or1 (dt_not (dt_tru (de_isi "tuple" B (de_var 4) B.tuple (by decide +kernel)))))))) (dss_one (ds_ret de_bl)) dss_nil)
    (dss_one (ds_ret (de_and (de_or (de_cmp cr_is (de_var 3) de_non) (de_oneO (de_call G_is_integer c (da_cons (de_var 3) (da_cons de_int da_nil))))) (de_oneA (de_not (DF.sh (df_lc [(("note" : Str), 5)] c (di_seq (de_var 4)) (lg_name 5) (fun _ _ _ _ _ => (dg_name c.blk 5)) (fun _ _ _ _ _ => (dts_one (dt_not (dt_tru (de_call G_is_integer c.blk (da_cons (de_var 5) (da_cons de_int da_nil))))))) (fun _ _ _ _ _ => (de_var 5)) (ok := blkOk_by (N := [("row" : Str), ("height" : Str), ("gap" : Str), ("cost" : Str), ("notes" : Str), ("note" : Str)]) (sc := defScope s_is_row) (by decide +kernel))))))))))))
theorem sc_check_rows : FnScope [("rows" : Str), ("row" : Str)] [("rows" : Str)] (defScope s_check_rows) := ⟨rfl, rfl, rfl, by decide +kernel, rfl, by decide +kernel, by decide +kernel⟩
theorem G_check_rows {f : Addr} {fd : FuncData} (B : Bi mg) (h_MOST_ROWS : ∃ t, mg ("MOST_ROWS" : Str) = some (.int (200) t)) (E_InvalidPages : Ec P w K mg base ("InvalidPages" : Str) "what") (E_TooMany : Ec P w K mg base ("TooMany" : Str) "what") (G_is_row : Fd P w K mg base ("is_row" : Str) 2 false false 1 F_is_row) (F : FnP K ("check_rows" : Str) ("check_rows" : Str) s_check_rows f fd) (hm : mg ("check_rows" : Str) = some (.ref f)) : Fd P w K mg base ("check_rows" : Str) 3 false false 1 F_check_rows := by
  obtain ⟨t_MOST_ROWS, h_MOST_ROWS⟩ := h_MOST_ROWS
  exact fd_okD (k := 2) F hm sc_check_rows (fun _ _ _ _ _ _ us hl => match us, hl with | [_], _ => rfl) (by decide) fun cdv A outer s H E c po =>
    (dss_cons (ds_if (dt_tru (DF.sh (df_lc [(("row" : Str), 1)] c (di_seq (de_var 0)) (lg_name 1) (fun _ _ _ _ _ => (dg_name c.blk 1)) (fun _ _ _ _ _ => (dts_one (dt_not (dt_tru (de_call G_is_row c.blk (da_cons (de_var 1) da_nil)))))) (fun _ _ _ _ _ => (de_var 1)) (ok := blkOk_by (N := [("rows" : Str), ("row" : Str)]) (sc := defScope s_check_rows) (by decide +kernel))))) (dss_one (ds_raise E_InvalidPages c de_str)) dss_nil)
    (dss_one (ds_if (dt_cmp cr_gt (de_len B (da_cons (de_var 0) da_nil)) (de_glob (v := .int (200)) h_MOST_ROWS ⟨t_MOST_ROWS, rfl⟩ fun _ => .int _)) (dss_one (ds_raise E_TooMany c de_str)) dss_nil)))
theorem sc_check_heights : FnScope [("rows" : Str), ("height" : Str), ("rule" : Str)] [("rows" : Str), ("height" : Str), ("rule" : Str)] (defScope s_check_heights) := ⟨rfl, rfl, rfl, by decide +kernel, rfl, by decide +kernel, by decide +kernel⟩
theorem G_check_heights {f : Addr} {fd : FuncData} (B : Bi mg) (E_InvalidPages : Ec P w K mg base ("InvalidPages" : Str) "what") (G_check_rows : Fd P w K mg base ("check_rows" : Str) 3 false false 1 F_check_rows) (F : FnP K ("check_heights" : Str) ("check_heights" : Str) s_check_heights f fd) (hm : mg ("check_heights" : Str) = some (.ref f)) : Fd P w K mg base ("check_heights" : Str) 4 false false 3 F_check_heights := by
  exact fd_okD (k := 3) F hm sc_check_heights (fun _ _ _ _ _ _ us hl => match us, hl with | [_, _, _], _ => rfl) (by decide) fun cdv A outer s H E c po =>
    (dss_cons (ds_expr (de_call G_check_rows c (da_cons (de_var 0) da_nil)))
    (dss_cons (ds_if (dt_cmp cr_lt (de_var 1) de_int) (dss_one (ds_raise E_InvalidPages c de_str)) dss_nil)
    (dss_one (ds_if (dt_cmp cr_lt (de_var 2) de_int) (dss_one (ds_raise E_InvalidPages c de_str)) dss_nil))))
theorem sc_best_pages : FnScope [("rows" : Str), ("height" : Str), ("rule" : Str), ("pages" : Str), ("least" : Str), ("places" : Str), ("start" : Str), ("end" : Str), ("tall" : Str)] [("rows" : Str), ("height" : Str), ("rule" : Str)] (defScope s_best_pages) := ⟨rfl, rfl, rfl, by decide +kernel, rfl, by decide +kernel, by decide +kernel⟩
theorem G_best_pages {f : Addr} {fd : FuncData} (B : Bi mg) (G_Pages___init__ : Cn P w K mg base ("Pages" : Str) 1 4 F_Pages___init__) (G_Pages_ends : Md P w K mg base ("Pages" : Str) ("ends" : Str) 1 false 2 F_Pages_ends) (G_Pages_badness : Md P w K mg base ("Pages" : Str) ("badness" : Str) 1 false 3 F_Pages_badness) (G_Pages_least : Md P w K mg base ("Pages" : Str) ("least" : Str) 2 false 1 F_Pages_least) (G_check_heights : Fd P w K mg base ("check_heights" : Str) 4 false false 3 F_check_heights) (F : FnP K ("best_pages" : Str) ("best_pages" : Str) s_best_pages f fd) (hm : mg ("best_pages" : Str) = some (.ref f)) : Fd P w K mg base ("best_pages" : Str) 5 false false 3 F_best_pages := by
  exact fd_okD (k := 4) F hm sc_best_pages (fun _ _ _ _ _ _ us hl => match us, hl with | [_, _, _], _ => rfl) (by decide) fun cdv A outer s H E c po =>
    (dss_cons (ds_expr (de_call G_check_heights c (da_cons (de_var 0) (da_cons (de_var 1) (da_cons (de_var 2) da_nil)))))
    (dss_cons (ds_set c 3 (DF.sh (df_make G_Pages___init__ c (da_cons (de_var 0) (da_cons (de_var 1) (da_cons (de_var 2) da_nil))))))
    (dss_cons (ds_set c 4 (de_meth0 G_Pages_least c (de_var 3)))
    (dss_cons (ds_if (dt_cmp cr_is (de_ix (de_var 4) de_int) de_non) (dss_one (ds_ret de_non)) dss_nil)
    (dss_cons (ds_setF c 5 (df_lst da_nil))
    (dss_cons (ds_set c 6 de_int)
    (dss_cons (ds_while (muD 0 6) po (dt_cmp cr_lt (de_var 6) (de_len B (da_cons (de_var 0) da_nil))) (dss_cons (ds_for po c (di_seq (de_meth G_Pages_ends c (de_var 3) (da_cons (de_var 6) da_nil))) (dg_tup c (dgs_cons (dg_name c 7) (dgs_cons (dg_name c 8) dgs_nil))) (dss_one (ds_if (dt_w (dw_and (dt_cmp cr_isNot (de_ix (de_var 4) (de_var 7)) de_non) (dw_and1 (dt_cmp (cr_eq c) (de_add (de_ix (de_var 4) (de_var 7)) (de_meth G_Pages_badness c (de_var 3) (da_cons (de_var 7) (da_cons (de_var 8) da_nil)))) (de_ix (de_var 4) (de_var 6)))))) (dss_one ds_brk) dss_nil)))
    (dss_cons (ds_expr (de_append 5 (pv 5) (da_cons (de_var 7) da_nil)))
    (dss_one (ds_set c 6 (de_var 7))))))
    (dss_one (ds_ret (de_tup (da_cons (de_var 5) (da_cons (de_ix (de_var 4) de_int) da_nil))))))))))))
theorem sc_is_whole : FnScope [("value" : Str)] [("value" : Str)] (defScope s_is_whole) := ⟨rfl, rfl, rfl, by decide +kernel, rfl, by decide +kernel, by decide +kernel⟩
theorem G_is_whole {f : Addr} {fd : FuncData} (B : Bi mg) (F : FnP K ("is_whole" : Str) ("is_whole" : Str) s_is_whole f fd) (hm : mg ("is_whole" : Str) = some (.ref f)) : Fd P w K mg base ("is_whole" : Str) 1 false false 1 F_is_whole := by
  exact fd_okD (k := 0) F hm sc_is_whole (fun _ _ _ _ _ _ us hl => match us, hl with | [_], _ => rfl) (by decide) fun cdv A outer s H E c po =>
    (dss_one (ds_ret (de_and (de_isi "int" B (de_var 0) B.int (by decide +kernel)) (de_oneA (de_not (de_isi "bool" B (de_var 0) B.bool (by decide +kernel)))))))
theorem sc_is_item : FnScope [("item" : Str)] [("item" : Str)] (defScope s_is_item) := ⟨rfl, rfl, rfl, by decide +kernel, rfl, by decide +kernel, by decide +kernel⟩
theorem G_is_item {f : Addr} {fd : FuncData} (B : Bi mg) (h_FORCED : ∃ t, mg ("FORCED" : Str) = some (.int (-10000) t)) (h_NEVER : ∃ t, mg ("NEVER" : Str) = some (.int (10000) t)) (G_is_whole : Fd P w K mg base ("is_whole" : Str) 1 false false 1 F_is_whole) (F : FnP K ("is_item" : Str) ("is_item" : Str) s_is_item f fd) (hm : mg ("is_item" : Str) = some (.ref f)) : Fd P w K mg base ("is_item" : Str) 2 false false 1 F_is_item := by
  obtain ⟨t_FORCED, h_FORCED⟩ := h_FORCED
  obtain ⟨t_NEVER, h_NEVER⟩ := h_NEVER
  exact fd_okD (k := 1) F hm sc_is_item (fun _ _ _ _ _ _ us hl => match us, hl with | [_], _ => rfl) (by decide) fun cdv A outer s H E c po =>
    (dss_cons (ds_if (dt_w (dw_or (dt_not (dt_tru (de_isi "tuple" B (de_var 0) B.tuple (by decide +kernel)))) (dw_or1 (dt_not (dt_truv 0 (pv 0)))))) (dss_one (ds_ret de_bl)) dss_nil)
    (dss_cons (ds_if (dt_cmp (cr_eq c) (de_ix (de_var 0) de_int) de_str) (dss_one (ds_ret (de_and (de_cmp (cr_eq c) (de_len B (da_cons (de_var 0) da_nil)) de_int) (de_and (de_call G_is_whole c (da_cons (de_ix (de_var 0) de_int) da_nil)) (de_and (de_cmp cr_ge (de_ix (de_var 0) de_int) de_int) (de_oneA (de_isi "str" B (de_ix (de_var 0) de_int) B.str (by decide +kernel)))))))) dss_nil)
    (dss_cons (ds_if (dt_w (dw_or (dt_cmp (cr_ne c) (de_len B (da_cons (de_var 0) da_nil)) de_int) (dw_or (dt_not (dt_tru (de_call G_is_whole c (da_cons (de_ix (de_var 0) de_int) da_nil)))) (dw_or (dt_not (dt_tru (de_call G_is_whole c (da_cons (de_ix (de_var 0) de_int) da_nil)))) (dw_or1 (dt_cmp cr_lt (de_ix (de_var 0) de_int) de_int)))))) (dss_one (ds_ret de_bl)) dss_nil)
    (dss_cons (ds_if (dt_cmp (cr_eq c) (de_ix (de_var 0) de_int) de_str) (dss_one (ds_ret (de_and (de_cmp cr_ge (de_ix (de_var 0) de_int) de_int) (de_and (de_call G_is_whole c (da_cons (de_ix (de_var 0) de_int) da_nil)) (de_oneA (de_chain cr_le cr_le de_int (de_ix (de_var 0) de_int) (de_ix (de_var 0) de_int))))))) dss_nil)
    (dss_one (ds_ret (de_and (de_cmp (cr_eq c) (de_ix (de_var 0) de_int) de_str) (de_and (de_chain cr_le cr_le (de_glob (v := .int (-10000)) h_FORCED ⟨t_FORCED, rfl⟩ fun _ => .int _) (de_ix (de_var 0) de_int) (de_glob (v := .int (10000)) h_NEVER ⟨t_NEVER, rfl⟩ fun _ => .int _)) (de_oneA (de_isi "bool" B (de_ix (de_var 0) de_int) B.bool (by decide +kernel)))))))))))
theorem sc_is_items : FnScope [("items" : Str), ("item" : Str)] [("items" : Str)] (defScope s_is_items) := ⟨rfl, rfl, rfl, by decide +kernel, rfl, by decide +kernel, by decide +kernel⟩
theorem G_is_items {f : Addr} {fd : FuncData} (B : Bi mg) (h_FORCED : ∃ t, mg ("FORCED" : Str) = some (.int (-10000) t)) (G_is_item : Fd P w K mg base ("is_item" : Str) 2 false false 1 F_is_item) (F : FnP K ("is_items" : Str) ("is_items" : Str) s_is_items f fd) (hm : mg ("is_items" : Str) = some (.ref f)) : Fd P w K mg base ("is_items" : Str) 3 false false 1 F_is_items := by
  obtain ⟨t_FORCED, h_FORCED⟩ := h_FORCED
  exact fd_okD (k := 2) F hm sc_is_items (fun _ _ _ _ _ _ us hl => match us, hl with | [_], _ => rfl) (by decide) fun cdv A outer s H E c po =>
    (dss_cons (ds_if (dt_w (dw_or (dt_not (dt_truv 0 (pv 0))) (dw_or1 (dt_tru (DF.sh (df_lc [(("item" : Str), 1)] c (di_seq (de_var 0)) (lg_name 1) (fun _ _ _ _ _ => (dg_name c.blk 1)) (fun _ _ _ _ _ => (dts_one (dt_not (dt_tru (de_call G_is_item c.blk (da_cons (de_var 1) da_nil)))))) (fun _ _ _ _ _ => (de_var 1)) (ok := blkOk_by (N := [("items" : Str), ("item" : Str)]) (sc := defScope s_is_items) (by decide +kernel)))))))) (dss_one (ds_ret de_bl)) dss_nil)
    (dss_cons (ds_if (dt_w (dw_or (dt_cmp (cr_ne c) (de_ix (de_ix (de_var 0) (de_neg de_int)) de_int) de_str) (dw_or1 (dt_cmp (cr_ne c) (de_ix (de_ix (de_var 0) (de_neg de_int)) de_int) (de_glob (v := .int (-10000)) h_FORCED ⟨t_FORCED, rfl⟩ fun _ => .int _))))) (dss_one (ds_ret de_bl)) dss_nil)
    (dss_one (ds_ret (de_cmp cr_gt (de_len B (da_cons (DF.sh (df_lc [(("item" : Str), 1)] c (di_seq (de_var 0)) (lg_name 1) (fun _ _ _ _ _ => (dg_name c.blk 1)) (fun _ _ _ _ _ => (dts_one (dt_cmp (cr_eq c.blk) (de_ix (de_var 1) de_int) de_str))) (fun _ _ _ _ _ => (de_var 1)) (ok := blkOk_by (N := [("items" : Str), ("item" : Str)]) (sc := defScope s_is_items) (by decide +kernel)))) da_nil)) de_int)))))
theorem sc_check_items : FnScope [("items" : Str)] [("items" : Str)] (defScope s_check_items) := ⟨rfl, rfl, rfl, by decide +kernel, rfl, by decide +kernel, by decide +kernel⟩
theorem G_check_items {f : Addr} {fd : FuncData} (B : Bi mg) (E_InvalidItems : Ec P w K mg base ("InvalidItems" : Str) "what") (G_is_items : Fd P w K mg base ("is_items" : Str) 3 false false 1 F_is_items) (F : FnP K ("check_items" : Str) ("check_items" : Str) s_check_items f fd) (hm : mg ("check_items" : Str) = some (.ref f)) : Fd P w K mg base ("check_items" : Str) 4 false false 1 F_check_items := by
  exact fd_okD (k := 3) F hm sc_check_items (fun _ _ _ _ _ _ us hl => match us, hl with | [_], _ => rfl) (by decide) fun cdv A outer s H E c po =>
    (dss_one (ds_if (dt_not (dt_tru (de_call G_is_items c (da_cons (de_var 0) da_nil)))) (dss_one (ds_raise E_InvalidItems c de_str)) dss_nil))
theorem sc_check_paragraph : FnScope [("items" : Str), ("widths" : Str), ("width" : Str)] [("items" : Str), ("widths" : Str)] (defScope s_check_paragraph) := ⟨rfl, rfl, rfl, by decide +kernel, rfl, by decide +kernel, by decide +kernel⟩
theorem G_check_paragraph {f : Addr} {fd : FuncData} (B : Bi mg) (h_MOST_ITEMS : ∃ t, mg ("MOST_ITEMS" : Str) = some (.int (400) t)) (E_InvalidLength : Ec P w K mg base ("InvalidLength" : Str) "what") (E_TooMany : Ec P w K mg base ("TooMany" : Str) "what") (G_check_items : Fd P w K mg base ("check_items" : Str) 4 false false 1 F_check_items) (F : FnP K ("check_paragraph" : Str) ("check_paragraph" : Str) s_check_paragraph f fd) (hm : mg ("check_paragraph" : Str) = some (.ref f)) : Fd P w K mg base ("check_paragraph" : Str) 5 false false 2 F_check_paragraph := by
  obtain ⟨t_MOST_ITEMS, h_MOST_ITEMS⟩ := h_MOST_ITEMS
  exact fd_okD (k := 4) F hm sc_check_paragraph (fun _ _ _ _ _ _ us hl => match us, hl with | [_, _], _ => rfl) (by decide) fun cdv A outer s H E c po =>
    (dss_cons (ds_expr (de_call G_check_items c (da_cons (de_var 0) da_nil)))
    (dss_cons (ds_if (dt_w (dw_or (dt_not (dt_truv 1 (pv 1))) (dw_or1 (dt_tru (DF.sh (df_lc [(("width" : Str), 2)] c (di_seq (de_var 1)) (lg_name 2) (fun _ _ _ _ _ => (dg_name c.blk 2)) (fun _ _ _ _ _ => (dts_one (dt_cmp cr_lt (de_var 2) de_int))) (fun _ _ _ _ _ => (de_var 2)) (ok := blkOk_by (N := [("items" : Str), ("widths" : Str), ("width" : Str)]) (sc := defScope s_check_paragraph) (by decide +kernel)))))))) (dss_one (ds_raise E_InvalidLength c de_str)) dss_nil)
    (dss_one (ds_if (dt_cmp cr_gt (de_len B (da_cons (de_var 0) da_nil)) (de_glob (v := .int (400)) h_MOST_ITEMS ⟨t_MOST_ITEMS, rfl⟩ fun _ => .int _)) (dss_one (ds_raise E_TooMany c de_str)) dss_nil))))
theorem sc_is_break : FnScope [("items" : Str), ("at" : Str)] [("items" : Str), ("at" : Str)] (defScope s_is_break) := ⟨rfl, rfl, rfl, by decide +kernel, rfl, by decide +kernel, by decide +kernel⟩
theorem G_is_break {f : Addr} {fd : FuncData} (B : Bi mg) (h_NEVER : ∃ t, mg ("NEVER" : Str) = some (.int (10000) t)) (F : FnP K ("is_break" : Str) ("is_break" : Str) s_is_break f fd) (hm : mg ("is_break" : Str) = some (.ref f)) : Fd P w K mg base ("is_break" : Str) 1 false false 2 F_is_break := by
  obtain ⟨t_NEVER, h_NEVER⟩ := h_NEVER
  exact fd_okD (k := 0) F hm sc_is_break (fun _ _ _ _ _ _ us hl => match us, hl with | [_, _], _ => rfl) (by decide) fun cdv A outer s H E c po =>
    (dss_cons (ds_if (dt_cmp (cr_eq c) (de_ix (de_ix (de_var 0) (de_var 1)) de_int) de_str) (dss_one (ds_ret (de_cmp cr_lt (de_ix (de_ix (de_var 0) (de_var 1)) de_int) (de_glob (v := .int (10000)) h_NEVER ⟨t_NEVER, rfl⟩ fun _ => .int _)))) dss_nil)
    (dss_one (ds_ret (de_and (de_cmp (cr_eq c) (de_ix (de_ix (de_var 0) (de_var 1)) de_int) de_str) (de_and (de_cmp cr_gt (de_var 1) de_int) (de_oneA (de_cmp (cr_eq c) (de_ix (de_ix (de_var 0) (de_sub (de_var 1) de_int)) de_int) de_str)))))))
theorem sc_all_breaks : FnScope [("items" : Str), ("at" : Str)] [("items" : Str)] (defScope s_all_breaks) := ⟨rfl, rfl, rfl, by decide +kernel, rfl, by decide +kernel, by decide +kernel⟩
theorem G_all_breaks {f : Addr} {fd : FuncData} (B : Bi mg) (G_is_break : Fd P w K mg base ("is_break" : Str) 1 false false 2 F_is_break) (F : FnP K ("all_breaks" : Str) ("all_breaks" : Str) s_all_breaks f fd) (hm : mg ("all_breaks" : Str) = some (.ref f)) : Fd P w K mg base ("all_breaks" : Str) 2 false false 1 F_all_breaks := by
  exact fd_okD (k := 1) F hm sc_all_breaks (fun _ _ _ _ _ _ us hl => match us, hl with | [_], _ => rfl) (by decide) fun cdv A outer s H E c po =>
    (dss_one (ds_ret (DF.sh (df_lc [(("at" : Str), 1)] c (di_r1 B (da_cons (de_len B (da_cons (de_var 0) da_nil)) da_nil)) (lg_name 1) (fun _ _ _ _ _ => (dg_name c.blk 1)) (fun _ _ _ _ _ => (dts_one (dt_tru (de_call G_is_break c.blk (da_cons (de_var 0) (da_cons (de_var 1) da_nil)))))) (fun _ _ _ _ _ => (de_var 1)) (ok := blkOk_by (N := [("items" : Str), ("at" : Str)]) (sc := defScope s_all_breaks) (by decide +kernel))))))
theorem sc_is_forced : FnScope [("items" : Str), ("at" : Str)] [("items" : Str), ("at" : Str)] (defScope s_is_forced) := ⟨rfl, rfl, rfl, by decide +kernel, rfl, by decide +kernel, by decide +kernel⟩
theorem G_is_forced {f : Addr} {fd : FuncData} (B : Bi mg) (h_FORCED : ∃ t, mg ("FORCED" : Str) = some (.int (-10000) t)) (F : FnP K ("is_forced" : Str) ("is_forced" : Str) s_is_forced f fd) (hm : mg ("is_forced" : Str) = some (.ref f)) : Fd P w K mg base ("is_forced" : Str) 1 false false 2 F_is_forced := by
  obtain ⟨t_FORCED, h_FORCED⟩ := h_FORCED
  exact fd_okD (k := 0) F hm sc_is_forced (fun _ _ _ _ _ _ us hl => match us, hl with | [_, _], _ => rfl) (by decide) fun cdv A outer s H E c po =>
    (dss_one (ds_ret (de_and (de_cmp (cr_eq c) (de_ix (de_ix (de_var 0) (de_var 1)) de_int) de_str) (de_oneA (de_cmp (cr_eq c) (de_ix (de_ix (de_var 0) (de_var 1)) de_int) (de_glob (v := .int (-10000)) h_FORCED ⟨t_FORCED, rfl⟩ fun _ => .int _))))))
theorem sc_line_between : FnScope [("items" : Str), ("start" : Str), ("end" : Str), ("inner" : Str), ("at" : Str)] [("items" : Str), ("start" : Str), ("end" : Str)] (defScope s_line_between) := ⟨rfl, rfl, rfl, by decide +kernel, rfl, by decide +kernel, by decide +kernel⟩
theorem G_line_between {f : Addr} {fd : FuncData} (B : Bi mg) (G_is_forced : Fd P w K mg base ("is_forced" : Str) 1 false false 2 F_is_forced) (F : FnP K ("line_between" : Str) ("line_between" : Str) s_line_between f fd) (hm : mg ("line_between" : Str) = some (.ref f)) : Fd P w K mg base ("line_between" : Str) 2 false false 3 F_line_between := by
  exact fd_okD (k := 1) F hm sc_line_between (fun _ _ _ _ _ _ us hl => match us, hl with | [_, _, _], _ => rfl) (by decide) fun cdv A outer s H E c po =>
    (dss_cons (ds_set c 3 (DF.sh (df_listOf B (da_cons (de_sl (de_var 0) (do_some (de_add (de_var 1) de_int)) (do_some (de_var 2))) da_nil))))
    (dss_cons (ds_if (dt_tru (DF.sh (df_lc [(("at" : Str), 4)] c (di_r2 B (da_cons (de_add (de_var 1) de_int) (da_cons (de_var 2) da_nil))) (lg_name 4) (fun _ _ _ _ _ => (dg_name c.blk 4)) (fun _ _ _ _ _ => (dts_one (dt_tru (de_call G_is_forced c.blk (da_cons (de_var 0) (da_cons (de_var 4) da_nil)))))) (fun _ _ _ _ _ => (de_var 4)) (ok := blkOk_by (N := [("items" : Str), ("start" : Str), ("end" : Str), ("inner" : Str), ("at" : Str)]) (sc := defScope s_line_between) (by decide +kernel))))) (dss_one (ds_ret de_non)) dss_nil)
    (dss_cons (ds_while (muLen 3) po (dt_w (dw_and (dt_truv 3 (pv 3)) (dw_and1 (dt_cmp (cr_ne c) (de_ix (de_ix (de_var 3) de_int) de_int) de_str)))) (dss_one (ds_set c 3 (de_sl (de_var 3) (do_some de_int) do_none))))
    (dss_one (ds_ret (de_if (dt_truv 3 (pv 3)) (de_var 3) de_non))))))
theorem sc_sums_of : FnScope [("items" : Str), ("line" : Str), ("end" : Str), ("natural" : Str), ("glue" : Str), ("item" : Str)] [("items" : Str), ("line" : Str), ("end" : Str)] (defScope s_sums_of) := ⟨rfl, rfl, rfl, by decide +kernel, rfl, by decide +kernel, by decide +kernel⟩
theorem G_sums_of {f : Addr} {fd : FuncData} (B : Bi mg) (F : FnP K ("sums_of" : Str) ("sums_of" : Str) s_sums_of f fd) (hm : mg ("sums_of" : Str) = some (.ref f)) : Fd P w K mg base ("sums_of" : Str) 1 false false 3 F_sums_of := by
  exact fd_okD (k := 0) F hm sc_sums_of (fun _ _ _ _ _ _ us hl => match us, hl with | [_, _, _], _ => rfl) (by decide) fun cdv A outer s H E c po =>
    (dss_cons (ds_set c 3 (de_sum c B (da_cons (DF.sh (df_lc [(("item" : Str), 5)] c (di_seq (de_var 1)) (lg_name 5) (fun _ _ _ _ _ => (dg_name c.blk 5)) (fun _ _ _ _ _ => (dts_one (dt_cmp (cr_ne c.blk) (de_ix (de_var 5) de_int) de_str))) (fun _ _ _ _ _ => (de_ix (de_var 5) de_int)) (ok := blkOk_by (N := [("items" : Str), ("line" : Str), ("end" : Str), ("natural" : Str), ("glue" : Str), ("item" : Str)]) (sc := defScope s_sums_of) (by decide +kernel)))) da_nil)))
    (dss_cons (ds_if (dt_cmp (cr_eq c) (de_ix (de_ix (de_var 0) (de_var 2)) de_int) de_str) (dss_one (ds_augAdd c 3 (de_ix (de_ix (de_var 0) (de_var 2)) de_int))) dss_nil)
    (dss_cons (ds_setLc 4 [(("item" : Str), 5)] c (di_seq (de_var 1)) (lg_name 5) (fun _ _ _ _ _ => (dg_name c.blk 5)) (fun _ _ _ _ _ => (dts_one (dt_cmp (cr_eq c.blk) (de_ix (de_var 5) de_int) de_str))) (fun _ _ _ _ _ => (de_var 5)) (ok := blkOk_by (N := [("items" : Str), ("line" : Str), ("end" : Str), ("natural" : Str), ("glue" : Str), ("item" : Str)]) (sc := defScope s_sums_of) (by decide +kernel)))
    (dss_one (ds_ret (de_tup (da_cons (de_var 3) (da_cons (de_sum c B (da_cons (DF.sh (df_lc [(("item" : Str), 5)] c (di_seq (de_var 4)) (lg_name 5) (fun _ _ _ _ _ => (dg_name c.blk 5)) (fun _ _ _ _ _ => dts_nil) (fun _ _ _ _ _ => (de_ix (de_var 5) de_int)) (ok := blkOk_by (N := [("items" : Str), ("line" : Str), ("end" : Str), ("natural" : Str), ("glue" : Str), ("item" : Str)]) (sc := defScope s_sums_of) (by decide +kernel)))) da_nil)) (da_cons (de_sum c B (da_cons (DF.sh (df_lc [(("item" : Str), 5)] c (di_seq (de_var 4)) (lg_name 5) (fun _ _ _ _ _ => (dg_name c.blk 5)) (fun _ _ _ _ _ => dts_nil) (fun _ _ _ _ _ => (de_ix (de_var 5) de_int)) (ok := blkOk_by (N := [("items" : Str), ("line" : Str), ("end" : Str), ("natural" : Str), ("glue" : Str), ("item" : Str)]) (sc := defScope s_sums_of) (by decide +kernel)))) da_nil)) da_nil)))))))))
theorem sc_left_over : FnScope [("items" : Str), ("start" : Str), ("end" : Str), ("width" : Str), ("line" : Str), ("gap" : Str)] [("items" : Str), ("start" : Str), ("end" : Str), ("width" : Str)] (defScope s_left_over) := ⟨rfl, rfl, rfl, by decide +kernel, rfl, by decide +kernel, by decide +kernel⟩
theorem G_left_over {f : Addr} {fd : FuncData} (B : Bi mg) (G_line_between : Fd P w K mg base ("line_between" : Str) 2 false false 3 F_line_between) (G_sums_of : Fd P w K mg base ("sums_of" : Str) 1 false false 3 F_sums_of) (F : FnP K ("left_over" : Str) ("left_over" : Str) s_left_over f fd) (hm : mg ("left_over" : Str) = some (.ref f)) : Fd P w K mg base ("left_over" : Str) 3 false false 4 F_left_over := by
  exact fd_okD (k := 2) F hm sc_left_over (fun _ _ _ _ _ _ us hl => match us, hl with | [_, _, _, _], _ => rfl) (by decide) fun cdv A outer s H E c po =>
    (dss_cons (ds_set c 4 (de_call G_line_between c (da_cons (de_var 0) (da_cons (de_var 1) (da_cons (de_var 2) da_nil)))))
    (dss_cons (ds_if (dt_cmp cr_is (de_var 4) de_non) (dss_one (ds_ret de_non)) dss_nil)
    (dss_cons (ds_set c 5 (de_sub (de_var 3) (de_ix (de_call G_sums_of c (da_cons (de_var 0) (da_cons (de_var 4) (da_cons (de_var 2) da_nil)))) de_int)))
    (dss_one (ds_ret (de_if (dt_cmp cr_ge (de_var 5) de_int) (de_var 5) de_non))))))
theorem sc_width_at : FnScope [("widths" : Str), ("many" : Str)] [("widths" : Str), ("many" : Str)] (defScope s_width_at) := ⟨rfl, rfl, rfl, by decide +kernel, rfl, by decide +kernel, by decide +kernel⟩
theorem G_width_at {f : Addr} {fd : FuncData} (B : Bi mg) (F : FnP K ("width_at" : Str) ("width_at" : Str) s_width_at f fd) (hm : mg ("width_at" : Str) = some (.ref f)) : Fd P w K mg base ("width_at" : Str) 1 false false 2 F_width_at := by
  exact fd_okD (k := 0) F hm sc_width_at (fun _ _ _ _ _ _ us hl => match us, hl with | [_, _], _ => rfl) (by decide) fun cdv A outer s H E c po =>
    (dss_one (ds_ret (de_ix (de_var 0) (de_min2 c B (da_cons (de_var 1) (da_cons (de_sub (de_len B (da_cons (de_var 0) da_nil)) de_int) da_nil))))))
theorem sc_best_ragged : FnScope [("items" : Str), ("widths" : Str), ("known" : Str), ("last" : Str), ("sums" : Str), ("end" : Str), ("many" : Str), ("start" : Str), ("gap" : Str), ("total" : Str), ("row" : Str), ("more" : Str), ("goals" : Str), ("pair" : Str)] [("items" : Str), ("widths" : Str)] (defScope s_best_ragged) := ⟨rfl, rfl, rfl, by decide +kernel, rfl, by decide +kernel, by decide +kernel⟩
theorem G_best_ragged {f : Addr} {fd : FuncData} (B : Bi mg) (G_check_paragraph : Fd P w K mg base ("check_paragraph" : Str) 5 false false 2 F_check_paragraph) (G_all_breaks : Fd P w K mg base ("all_breaks" : Str) 2 false false 1 F_all_breaks) (G_left_over : Fd P w K mg base ("left_over" : Str) 3 false false 4 F_left_over) (G_width_at : Fd P w K mg base ("width_at" : Str) 1 false false 2 F_width_at) (F : FnP K ("best_ragged" : Str) ("best_ragged" : Str) s_best_ragged f fd) (hm : mg ("best_ragged" : Str) = some (.ref f)) : Fd P w K mg base ("best_ragged" : Str) 6 false false 2 F_best_ragged := by
  exact fd_okD (k := 5) F hm sc_best_ragged (fun _ _ _ _ _ _ us hl => match us, hl with | [_, _], _ => rfl) (by decide) fun cdv A outer s H E c po =>
    (dss_cons (ds_expr (de_call G_check_paragraph c (da_cons (de_var 0) (da_cons (de_var 1) da_nil))))
    (dss_cons (ds_set c 2 (de_call G_all_breaks c (da_cons (de_var 0) da_nil)))
    (dss_cons (ds_set c 3 (de_sub (de_len B (da_cons (de_var 0) da_nil)) de_int))
    (dss_cons (ds_setF c 4 (df_dispT c (dps_cons (de_tup (da_cons de_int (da_cons (de_neg de_int) da_nil))) (de_tup (da_cons de_int (da_cons (DF.sh (df_lst da_nil)) da_nil))) dps_nil)))
    (dss_cons (ds_for po c (di_seq (de_var 2)) (dg_name c 5) (dss_one (ds_for po c (di_seq (DF.sh (df_sortDTv 4 c B (pv 4)))) (dg_tup c (dgs_cons (dg_name c 6) (dgs_cons (dg_name c 7) dgs_nil))) (dss_one (ds_if (dt_cmp cr_lt (de_var 7) (de_var 5)) (dss_cons (ds_set c 8 (de_call G_left_over c (da_cons (de_var 0) (da_cons (de_var 7) (da_cons (de_var 5) (da_cons (de_call G_width_at c (da_cons (de_var 1) (da_cons (de_var 6) da_nil))) da_nil))))))
    (dss_one (ds_if (dt_cmp cr_isNot (de_var 8) de_non) (dss_cons (ds_asg (de_dgv 4 c (pv 4) (de_tup (da_cons (de_var 6) (da_cons (de_var 7) da_nil)))) (dg_tup c (dgs_cons (dg_name c 9) (dgs_cons (dg_name c 10) dgs_nil))))
    (dss_cons (ds_set c 11 (de_tup (da_cons (de_add (de_var 9) (de_if (dt_cmp (cr_eq c) (de_var 5) (de_var 3)) de_int (de_mul (de_var 8) (de_var 8)))) (da_cons (de_add (de_var 10) (DF.sh (df_lst (da_cons (de_var 5) da_nil)))) da_nil))))
    (dss_one (ds_if (dt_w (dw_or (dt_dnotin 4 c (de_tup (da_cons (de_add (de_var 6) de_int) (da_cons (de_var 5) da_nil))) (pv 4)) (dw_or1 (dt_cmp (cr_ltD c) (de_var 11) (de_dgv 4 c (pv 4) (de_tup (da_cons (de_add (de_var 6) de_int) (da_cons (de_var 5) da_nil)))))))) (dss_one (ds_putD 4 c (pv 4) (de_tup (da_cons (de_add (de_var 6) de_int) (da_cons (de_var 5) da_nil))) (de_var 11))) dss_nil)))) dss_nil))) dss_nil)))))
    (dss_cons (ds_setLcD 12 4 [(("pair" : Str), 13)] c (pv 4) (lg_name 13) (fun _ _ _ _ _ => (dg_name c.blk 13)) (fun _ _ _ _ _ => (dts_one (dt_cmp (cr_eq c.blk) (de_ix (de_var 13) de_int) (de_var 3)))) (fun _ _ _ _ _ => (de_dgv 4 c.blk (pv 4) (de_var 13))) (ok := blkOk_by (N := [("items" : Str), ("widths" : Str), ("known" : Str), ("last" : Str), ("sums" : Str), ("end" : Str), ("many" : Str), ("start" : Str), ("gap" : Str), ("total" : Str), ("row" : Str), ("more" : Str), ("goals" : Str), ("pair" : Str)]) (sc := defScope s_best_ragged) (by decide +kernel)))
    (dss_one (ds_ret (de_if (dt_truv 12 (pv 12)) (de_minD c B (da_cons (de_var 12) da_nil)) de_non)))))))))
theorem sc_check_columns : FnScope [("rows" : Str), ("columns" : Str)] [("rows" : Str), ("columns" : Str)] (defScope s_check_columns) := ⟨rfl, rfl, rfl, by decide +kernel, rfl, by decide +kernel, by decide +kernel⟩
theorem G_check_columns {f : Addr} {fd : FuncData} (B : Bi mg) (E_InvalidPages : Ec P w K mg base ("InvalidPages" : Str) "what") (G_check_rows : Fd P w K mg base ("check_rows" : Str) 3 false false 1 F_check_rows) (F : FnP K ("check_columns" : Str) ("check_columns" : Str) s_check_columns f fd) (hm : mg ("check_columns" : Str) = some (.ref f)) : Fd P w K mg base ("check_columns" : Str) 4 false false 2 F_check_columns := by
  exact fd_okD (k := 3) F hm sc_check_columns (fun _ _ _ _ _ _ us hl => match us, hl with | [_, _], _ => rfl) (by decide) fun cdv A outer s H E c po =>
    (dss_cons (ds_expr (de_call G_check_rows c (da_cons (de_var 0) da_nil)))
    (dss_one (ds_if (dt_cmp cr_lt (de_var 1) de_int) (dss_one (ds_raise E_InvalidPages c de_str)) dss_nil)))
theorem sc_filled_columns : FnScope [("rows" : Str), ("columns" : Str), ("height" : Str), ("pages" : Str), ("places" : Str), ("start" : Str), ("ends" : Str)] [("rows" : Str), ("columns" : Str), ("height" : Str)] (defScope s_filled_columns) := ⟨rfl, rfl, rfl, by decide +kernel, rfl, by decide +kernel, by decide +kernel⟩
theorem G_filled_columns {f : Addr} {fd : FuncData} (B : Bi mg) (G_Pages___init__ : Cn P w K mg base ("Pages" : Str) 1 4 F_Pages___init__) (G_Pages_ends : Md P w K mg base ("Pages" : Str) ("ends" : Str) 1 false 2 F_Pages_ends) (F : FnP K ("filled" : Str) ("filled" : Str) s_filled_columns f fd) (hm : mg ("filled_columns" : Str) = some (.ref f)) : Fd P w K mg base ("filled_columns" : Str) 3 false false 3 F_filled_columns := by
  exact fd_okA (k := 2) F hm sc_filled_columns (fun _ _ _ _ _ _ us hl => match us, hl with | [_, _, _], _ => rfl) (by decide) fun cdv A outer s H E c po =>
    (dss_cons (ds_set c 3 (DF.sh (df_make G_Pages___init__ c (da_cons (de_var 0) (da_cons (de_var 2) (da_cons de_int da_nil))))))
    (dss_cons (ds_setF c 4 (df_lst da_nil))
    (dss_cons (ds_set c 5 de_int)
    (dss_cons (ds_while (muD 0 5) po (dt_cmp cr_lt (de_var 5) (de_len B (da_cons (de_var 0) da_nil))) (dss_cons (ds_set c 6 (de_meth G_Pages_ends c (de_var 3) (da_cons (de_var 5) da_nil)))
    (dss_cons (ds_if (dt_w (dw_or (dt_not (dt_truv 6 (pv 6))) (dw_or1 (dt_cmp (cr_eq c) (de_lenv B 4 (pv 4)) (de_var 1))))) (dss_one (ds_ret de_non)) dss_nil)
    (dss_cons (ds_set c 5 (de_ix (de_ix (de_var 6) (de_neg de_int)) de_int))
    (dss_one (ds_expr (de_append 4 (pv 4) (da_cons (de_var 5) da_nil))))))))
    (dss_one (ds_ret (de_var 4)))))))
theorem sc_used : FnScope [("rows" : Str), ("rule" : Str), ("notes" : Str), ("row" : Str), ("total" : Str)] [("rows" : Str), ("rule" : Str)] (defScope s_used) := ⟨rfl, rfl, rfl, by decide +kernel, rfl, by decide +kernel, by decide +kernel⟩
theorem G_used {f : Addr} {fd : FuncData} (B : Bi mg) (F : FnP K ("used" : Str) ("used" : Str) s_used f fd) (hm : mg ("used" : Str) = some (.ref f)) : Fd P w K mg base ("used" : Str) 1 false false 2 F_used := by
  exact fd_okD (k := 0) F hm sc_used (fun _ _ _ _ _ _ us hl => match us, hl with | [_, _], _ => rfl) (by decide) fun cdv A outer s H E c po =>
    (dss_cons (ds_if (dt_not (dt_truv 0 (pv 0))) (dss_one (ds_ret de_int)) dss_nil)
    (dss_cons (ds_setF c 2 (df_lst da_nil))
    (dss_cons (ds_for po c (di_seq (de_var 0)) (dg_name c 3) (dss_one (ds_expr (de_extendU 2 (pv 2) (da_cons (de_ix (de_var 3) de_int) da_nil)))))
    (dss_cons (ds_set c 4 (de_sub (de_sum c B (da_cons (DF.sh (df_lc [(("row" : Str), 3)] c (di_seq (de_var 0)) (lg_name 3) (fun _ _ _ _ _ => (dg_name c.blk 3)) (fun _ _ _ _ _ => dts_nil) (fun _ _ _ _ _ => (de_add (de_ix (de_var 3) de_int) (de_ix (de_var 3) de_int))) (ok := blkOk_by (N := [("rows" : Str), ("rule" : Str), ("notes" : Str), ("row" : Str), ("total" : Str)]) (sc := defScope s_used) (by decide +kernel)))) da_nil)) (de_ix (de_ix (de_var 0) de_int) de_int)))
    (dss_one (ds_ret (de_add (de_add (de_var 4) (de_sumU c B (da_cons (de_var 2) da_nil))) (de_mul (de_var 1) (de_toint B (da_cons (de_cmp cr_gt (de_lenv B 2 (pv 2)) de_int) da_nil))))))))))
theorem sc_balanced : FnScope [("rows" : Str), ("columns" : Str), ("heights" : Str), ("start" : Str), ("end" : Str), ("tall" : Str), ("height" : Str), ("places" : Str), ("row" : Str)] [("rows" : Str), ("columns" : Str)] (defScope s_balanced) := ⟨rfl, rfl, rfl, by decide +kernel, rfl, by decide +kernel, by decide +kernel⟩
theorem G_balanced {f : Addr} {fd : FuncData} (B : Bi mg) (G_Pages___init__ : Cn P w K mg base ("Pages" : Str) 1 4 F_Pages___init__) (G_Pages_ends : Md P w K mg base ("Pages" : Str) ("ends" : Str) 1 false 2 F_Pages_ends) (G_check_columns : Fd P w K mg base ("check_columns" : Str) 4 false false 2 F_check_columns) (G_filled_columns : Fd P w K mg base ("filled_columns" : Str) 3 false false 3 F_filled_columns) (G_used : Fd P w K mg base ("used" : Str) 1 false false 2 F_used) (F : FnP K ("balanced" : Str) ("balanced" : Str) s_balanced f fd) (hm : mg ("balanced" : Str) = some (.ref f)) : Fd P w K mg base ("balanced" : Str) 5 false false 2 F_balanced := by
  exact fd_okD (k := 4) F hm sc_balanced (fun _ _ _ _ _ _ us hl => match us, hl with | [_, _], _ => rfl) (by decide) fun cdv A outer s H E c po =>
    (dss_cons (ds_expr (de_call G_check_columns c (da_cons (de_var 0) (da_cons (de_var 1) da_nil))))
    (dss_cons (ds_if (dt_not (dt_truv 0 (pv 0))) (dss_one (ds_ret (de_tup (da_cons de_int (da_cons (DF.sh (df_lst da_nil)) da_nil))))) dss_nil)
    (dss_cons (ds_setF c 2 df_dnewK)
    (dss_cons (ds_for po c (di_r1 B (da_cons (de_len B (da_cons (de_var 0) da_nil)) da_nil)) (dg_name c 3) (dss_one (ds_for po c (di_seq (de_meth G_Pages_ends c (DF.sh (df_make G_Pages___init__ c (da_cons (de_var 0) (da_cons (de_add (de_call G_used c (da_cons (de_var 0) (da_cons de_int da_nil))) (de_sum c B (da_cons (DF.sh (df_lc [(("row" : Str), 8)] c (di_seq (de_var 0)) (lg_name 8) (fun _ _ _ _ _ => (dg_name c.blk 8)) (fun _ _ _ _ _ => dts_nil) (fun _ _ _ _ _ => (de_ix (de_var 8) de_int)) (ok := blkOk_by (N := [("rows" : Str), ("columns" : Str), ("heights" : Str), ("start" : Str), ("end" : Str), ("tall" : Str), ("height" : Str), ("places" : Str), ("row" : Str)]) (sc := defScope s_balanced) (by decide +kernel)))) da_nil))) (da_cons de_int da_nil))))) (da_cons (de_var 3) da_nil))) (dg_tup c (dgs_cons (dg_name c 4) (dgs_cons (dg_name c 5) dgs_nil))) (dss_one (ds_putD 2 c (pv 2) (de_var 5) de_bl)))))
    (dss_cons (ds_for po c (di_seq (DF.sh (df_sortDK c B (de_var 2)))) (dg_name c 6) (dss_cons (ds_set c 7 (de_call G_filled_columns c (da_cons (de_var 0) (da_cons (de_var 1) (da_cons (de_var 6) da_nil)))))
    (dss_one (ds_if (dt_cmp cr_isNot (de_var 7) de_non) (dss_one (ds_ret (de_tup (da_cons (de_var 6) (da_cons (de_var 7) da_nil))))) dss_nil))))
    (dss_one (ds_ret de_non)))))))
theorem sc__law_take : FnScope [("deck" : Str), ("many" : Str)] [("deck" : Str), ("many" : Str)] (defScope s__law_take) := ⟨rfl, rfl, rfl, by decide +kernel, rfl, by decide +kernel, by decide +kernel⟩
theorem G__law_take {f : Addr} {fd : FuncData} (B : Bi mg) (F : FnP K ("_law_take" : Str) ("_law_take" : Str) s__law_take f fd) (hm : mg ("_law_take" : Str) = some (.ref f)) : Fd P w K mg base ("_law_take" : Str) 1 true false 2 F__law_take := by
  exact fd_okD (k := 0) F hm sc__law_take (fun _ _ _ _ _ _ us hl => match us, hl with | [_, _], _ => rfl) (by decide) fun cdv A outer s H E c po =>
    (dss_cons (ds_if (dt_cmp (cr_eq c) (de_lenv B 0 (pv 0)) de_int) (dss_one (ds_ret de_int)) dss_nil)
    (dss_one (ds_ret (de_mod (de_toint B (da_cons (de_pop 0 (pv 0)) da_nil)) (de_var 1)))))
theorem sc_first_fit : FnScope [("rows" : Str), ("height" : Str), ("rule" : Str), ("pages" : Str), ("places" : Str), ("start" : Str), ("ends" : Str)] [("rows" : Str), ("height" : Str), ("rule" : Str)] (defScope s_first_fit) := ⟨rfl, rfl, rfl, by decide +kernel, rfl, by decide +kernel, by decide +kernel⟩
theorem G_first_fit {f : Addr} {fd : FuncData} (B : Bi mg) (G_Pages___init__ : Cn P w K mg base ("Pages" : Str) 1 4 F_Pages___init__) (G_Pages_ends : Md P w K mg base ("Pages" : Str) ("ends" : Str) 1 false 2 F_Pages_ends) (G_check_heights : Fd P w K mg base ("check_heights" : Str) 4 false false 3 F_check_heights) (F : FnP K ("first_fit" : Str) ("first_fit" : Str) s_first_fit f fd) (hm : mg ("first_fit" : Str) = some (.ref f)) : Fd P w K mg base ("first_fit" : Str) 5 false false 3 F_first_fit := by
  exact fd_okD (k := 4) F hm sc_first_fit (fun _ _ _ _ _ _ us hl => match us, hl with | [_, _, _], _ => rfl) (by decide) fun cdv A outer s H E c po =>
    (dss_cons (ds_expr (de_call G_check_heights c (da_cons (de_var 0) (da_cons (de_var 1) (da_cons (de_var 2) da_nil)))))
    (dss_cons (ds_set c 3 (DF.sh (df_make G_Pages___init__ c (da_cons (de_var 0) (da_cons (de_var 1) (da_cons (de_var 2) da_nil))))))
    (dss_cons (ds_setF c 4 (df_lst da_nil))
    (dss_cons (ds_set c 5 de_int)
    (dss_cons (ds_while (muD 0 5) po (dt_cmp cr_lt (de_var 5) (de_len B (da_cons (de_var 0) da_nil))) (dss_cons (ds_set c 6 (de_meth G_Pages_ends c (de_var 3) (da_cons (de_var 5) da_nil)))
    (dss_cons (ds_if (dt_not (dt_truv 6 (pv 6))) (dss_one (ds_ret de_non)) dss_nil)
    (dss_cons (ds_set c 5 (de_ix (de_ix (de_var 6) (de_neg de_int)) de_int))
    (dss_one (ds_expr (de_append 4 (pv 4) (da_cons (de_var 5) da_nil))))))))
    (dss_one (ds_ret (de_var 4))))))))
theorem sc_filled_ragged : FnScope [("items" : Str), ("widths" : Str), ("known" : Str), ("found" : Str), ("start" : Str), ("width" : Str), ("able" : Str), ("end" : Str)] [("items" : Str), ("widths" : Str)] (defScope s_filled_ragged) := ⟨rfl, rfl, rfl, by decide +kernel, rfl, by decide +kernel, by decide +kernel⟩
theorem G_filled_ragged {f : Addr} {fd : FuncData} (B : Bi mg) (G_check_paragraph : Fd P w K mg base ("check_paragraph" : Str) 5 false false 2 F_check_paragraph) (G_all_breaks : Fd P w K mg base ("all_breaks" : Str) 2 false false 1 F_all_breaks) (G_left_over : Fd P w K mg base ("left_over" : Str) 3 false false 4 F_left_over) (G_width_at : Fd P w K mg base ("width_at" : Str) 1 false false 2 F_width_at) (F : FnP K ("filled" : Str) ("filled" : Str) s_filled_ragged f fd) (hm : mg ("filled_ragged" : Str) = some (.ref f)) : Fd P w K mg base ("filled_ragged" : Str) 6 false false 2 F_filled_ragged := by
  exact fd_okA (k := 5) F hm sc_filled_ragged (fun _ _ _ _ _ _ us hl => match us, hl with | [_, _], _ => rfl) (by decide) fun cdv A outer s H E c po =>
    (dss_cons (ds_expr (de_call G_check_paragraph c (da_cons (de_var 0) (da_cons (de_var 1) da_nil))))
    (dss_cons (ds_set c 2 (de_call G_all_breaks c (da_cons (de_var 0) da_nil)))
    (dss_cons (ds_setF c 3 (df_lst da_nil))
    (dss_cons (ds_set c 4 (de_neg de_int))
    (dss_cons (ds_while (muD 0 4) po (dt_cmp (cr_ne c) (de_var 4) (de_sub (de_len B (da_cons (de_var 0) da_nil)) de_int)) (dss_cons (ds_set c 5 (de_call G_width_at c (da_cons (de_var 1) (da_cons (de_lenv B 3 (pv 3)) da_nil))))
    (dss_cons (ds_setLc 6 [(("end" : Str), 7)] c (di_seq (de_var 2)) (lg_name 7) (fun _ _ _ _ _ => (dg_name c.blk 7)) (fun _ _ _ _ _ => (dts_one (dt_w (dw_and (dt_cmp cr_gt (de_var 7) (de_var 4)) (dw_and1 (dt_cmp cr_isNot (de_call G_left_over c.blk (da_cons (de_var 0) (da_cons (de_var 4) (da_cons (de_var 7) (da_cons (de_var 5) da_nil))))) de_non)))))) (fun _ _ _ _ _ => (de_var 7)) (ok := blkOk_by (N := [("items" : Str), ("widths" : Str), ("known" : Str), ("found" : Str), ("start" : Str), ("width" : Str), ("able" : Str), ("end" : Str)]) (sc := defScope s_filled_ragged) (by decide +kernel)))
    (dss_cons (ds_if (dt_not (dt_truv 6 (pv 6))) (dss_one (ds_ret de_non)) dss_nil)
    (dss_cons (ds_set c 4 (de_ix (de_var 6) (de_neg de_int)))
    (dss_one (ds_expr (de_append 3 (pv 3) (da_cons (de_var 4) da_nil)))))))))
    (dss_one (ds_ret (de_var 3))))))))
theorem sc_least_lines : FnScope [("items" : Str), ("widths" : Str), ("known" : Str), ("many" : Str), ("end" : Str), ("row" : Str), ("start" : Str)] [("items" : Str), ("widths" : Str)] (defScope s_least_lines) := ⟨rfl, rfl, rfl, by decide +kernel, rfl, by decide +kernel, by decide +kernel⟩
theorem G_least_lines {f : Addr} {fd : FuncData} (B : Bi mg) (E_InvalidLength : Ec P w K mg base ("InvalidLength" : Str) "what") (G_check_paragraph : Fd P w K mg base ("check_paragraph" : Str) 5 false false 2 F_check_paragraph) (G_all_breaks : Fd P w K mg base ("all_breaks" : Str) 2 false false 1 F_all_breaks) (G_left_over : Fd P w K mg base ("left_over" : Str) 3 false false 4 F_left_over) (F : FnP K ("least_lines" : Str) ("least_lines" : Str) s_least_lines f fd) (hm : mg ("least_lines" : Str) = some (.ref f)) : Fd P w K mg base ("least_lines" : Str) 6 false false 2 F_least_lines := by
  exact fd_okD (k := 5) F hm sc_least_lines (fun _ _ _ _ _ _ us hl => match us, hl with | [_, _], _ => rfl) (by decide) fun cdv A outer s H E c po =>
    (dss_cons (ds_expr (de_call G_check_paragraph c (da_cons (de_var 0) (da_cons (de_var 1) da_nil))))
    (dss_cons (ds_if (dt_cmp (cr_ne c) (de_len B (da_cons (de_var 1) da_nil)) de_int) (dss_one (ds_raise E_InvalidLength c de_str)) dss_nil)
    (dss_cons (ds_set c 2 (de_call G_all_breaks c (da_cons (de_var 0) da_nil)))
    (dss_cons (ds_setF c 3 (df_disp (dps_cons (de_neg de_int) de_int dps_nil)))
    (dss_cons (ds_for po c (di_seq (de_var 2)) (dg_name c 4) (dss_cons (ds_setLcDp 5 3 [(("start" : Str), 6)] c (pv 3) (lg_name 6) (fun _ _ _ _ _ => (dg_name c.blk 6)) (fun _ _ _ _ _ => (dts_one (dt_w (dw_and (dt_cmp cr_lt (de_var 6) (de_var 4)) (dw_and1 (dt_cmp cr_isNot (de_call G_left_over c.blk (da_cons (de_var 0) (da_cons (de_var 6) (da_cons (de_var 4) (da_cons (de_ix (de_var 1) de_int) da_nil))))) de_non)))))) (fun _ _ _ _ _ => (de_add (de_dgv 3 c.blk (pv 3) (de_var 6)) de_int)) (ok := blkOk_by (N := [("items" : Str), ("widths" : Str), ("known" : Str), ("many" : Str), ("end" : Str), ("row" : Str), ("start" : Str)]) (sc := defScope s_least_lines) (by decide +kernel)))
    (dss_one (ds_if (dt_truv 5 (pv 5)) (dss_one (ds_putD 3 c (pv 3) (de_var 4) (de_minD c B (da_cons (de_var 5) da_nil)))) dss_nil))))
    (dss_one (ds_ret (de_dget1v 3 c (pv 3) (de_sub (de_len B (da_cons (de_var 0) da_nil)) de_int)))))))))
theorem sc__law_plain : FnScope [("value" : Str), ("item" : Str)] [("value" : Str)] (defScope s__law_plain) := ⟨rfl, rfl, rfl, by decide +kernel, rfl, by decide +kernel, by decide +kernel⟩
theorem G__law_plain {f : Addr} {fd : FuncData} (B : Bi mg) (F : FnP K ("_law_plain" : Str) ("_law_plain" : Str) s__law_plain f fd) (hm : mg ("_law_plain" : Str) = some (.ref f)) : ∀ n : Nat, Fd P w K mg base ("_law_plain" : Str) (n + 1) false false 1 (F__law_plain_ n)
  | 0 => fd_okD (k := 0) F hm sc__law_plain (fun _ _ _ _ _ _ us hl => match us, hl with | [_], _ => rfl) (by decide) fun cdv A outer s H E c po => dss_bad
  | n + 1 => by
    have G__law_plain := G__law_plain B F hm n
    exact fd_okD (k := n + 1) F hm sc__law_plain (fun _ _ _ _ _ _ us hl => match us, hl with | [_], _ => rfl) (by decide) fun cdv A outer s H E c po =>
    (dss_cons (ds_if (dt_tru (de_isi2 "tuple" "list" B (de_var 0) B.tuple (by decide +kernel) B.list (by decide +kernel))) (dss_one (ds_ret (de_add (DF.sh (df_lst (da_cons (de_isi "list" B (de_var 0) B.list (by decide +kernel)) da_nil))) (DF.sh (df_lc [(("item" : Str), 1)] c (di_seq (de_var 0)) (lg_name 1) (fun _ _ _ _ _ => (dg_name c.blk 1)) (fun _ _ _ _ _ => dts_nil) (fun _ _ _ _ _ => (de_call G__law_plain c.blk (da_cons (de_var 1) da_nil) (hj := Nat.le_refl (n + 1)))) (ok := blkOk_by (N := [("value" : Str), ("item" : Str)]) (sc := defScope s__law_plain) (by decide +kernel))))))) dss_nil)
    (dss_cons (ds_if (dt_w (dw_or (dt_cmp cr_is (de_var 0) de_non) (dw_or1 (dt_tru (de_isi "bool" B (de_var 0) B.bool (by decide +kernel)))))) (dss_one (ds_ret (de_ix (DF.sh (df_lst (da_cons de_str (da_cons de_str (da_cons de_str da_nil))))) (de_add (de_toint B (da_cons (de_cmp cr_isNot (de_var 0) de_non) da_nil)) (de_toint B (da_cons (de_cmp cr_isB (de_var 0) de_bl) da_nil)))))) dss_nil)
    (dss_cons (ds_if (dt_tru (de_isi2 "int" "str" B (de_var 0) B.int (by decide +kernel) B.str (by decide +kernel))) (dss_one (ds_ret (DF.sh (df_lst (da_cons (de_isi "str" B (de_var 0) B.str (by decide +kernel)) (da_cons (de_var 0) da_nil)))))) dss_nil)
    (dss_one (ds_ret de_str)))))
theorem sc_least_height : FnScope [("rows" : Str), ("columns" : Str), ("found" : Str)] [("rows" : Str), ("columns" : Str)] (defScope s_least_height) := ⟨rfl, rfl, rfl, by decide +kernel, rfl, by decide +kernel, by decide +kernel⟩
theorem G_least_height {f : Addr} {fd : FuncData} (B : Bi mg) (G_balanced : Fd P w K mg base ("balanced" : Str) 5 false false 2 F_balanced) (F : FnP K ("least_height" : Str) ("least_height" : Str) s_least_height f fd) (hm : mg ("least_height" : Str) = some (.ref f)) : Fd P w K mg base ("least_height" : Str) 6 false false 2 F_least_height := by
  exact fd_okD (k := 5) F hm sc_least_height (fun _ _ _ _ _ _ us hl => match us, hl with | [_, _], _ => rfl) (by decide) fun cdv A outer s H E c po =>
    (dss_cons (ds_set c 2 (de_call G_balanced c (da_cons (de_var 0) (da_cons (de_var 1) da_nil))))
    (dss_one (ds_ret (de_if (dt_cmp cr_is (de_var 2) de_non) de_non (de_ix (de_var 2) de_int)))))
theorem sc_law : FnScope [("script" : Str), ("deck" : Str), ("rows" : Str), ("items" : Str), ("height" : Str), ("pages" : Str), ("lines" : Str), ("places" : Str), ("first" : Str), ("ends" : Str), ("columns" : Str), ("width" : Str), ("told" : Str), ("turn" : Str), ("row" : Str), ("end" : Str)] [("script" : Str)] (defScope s_law) := ⟨rfl, rfl, rfl, by decide +kernel, rfl, by decide +kernel, by decide +kernel⟩
theorem G_law {f : Addr} {fd : FuncData} (B : Bi mg) (G__law_deck : Fd P w K mg base ("_law_deck" : Str) 1 false true 3 F__law_deck) (G__law_items : Fd P w K mg base ("_law_items" : Str) 1 false false 1 F__law_items) (G_best_pages : Fd P w K mg base ("best_pages" : Str) 5 false false 3 F_best_pages) (G_best_ragged : Fd P w K mg base ("best_ragged" : Str) 6 false false 2 F_best_ragged) (G_balanced : Fd P w K mg base ("balanced" : Str) 5 false false 2 F_balanced) (G__law_take : Fd P w K mg base ("_law_take" : Str) 1 true false 2 F__law_take) (G_first_fit : Fd P w K mg base ("first_fit" : Str) 5 false false 3 F_first_fit) (G_filled_ragged : Fd P w K mg base ("filled_ragged" : Str) 6 false false 2 F_filled_ragged) (G_least_lines : Fd P w K mg base ("least_lines" : Str) 6 false false 2 F_least_lines) (G__law_plain : Fd P w K mg base ("_law_plain" : Str) 6 false false 1 F__law_plain) (G_least_height : Fd P w K mg base ("least_height" : Str) 6 false false 2 F_least_height) (F : FnP K ("law" : Str) ("law" : Str) s_law f fd) (hm : mg ("law" : Str) = some (.ref f)) : FnOk P w K mg base (L2.CX P w) 7 f fd [("script" : Str)] (spD K mg false false 1 F_law) := by
  exact fn_okD (k := 6) F sc_law (by decide) fun cdv A outer s H E c po =>
    (dss_cons (ds_setF c 1 (df_call G__law_deck c (da_cons (de_var 0) (da_cons de_int (da_cons de_int da_nil)))))
    (dss_cons (ds_setLc 2 [(("turn" : Str), 13)] c (di_r1 B (da_cons (de_add de_int (de_callIo G__law_take c 1 (pv 1) (da_cons de_int da_nil))) da_nil)) (lg_name 13) (fun _ _ _ _ _ => (dg_name c.blk 13)) (fun _ _ _ _ _ => dts_nil) (fun _ _ _ _ _ => (de_tup (da_cons (de_add de_int (de_callIo G__law_take c.blk 1 (pv 1) (da_cons de_int da_nil))) (da_cons (de_callIo G__law_take c.blk 1 (pv 1) (da_cons de_int da_nil)) (da_cons de_int (da_cons (de_tup da_nil) da_nil)))))) (ok := blkOk_by (N := [("script" : Str), ("deck" : Str), ("rows" : Str), ("items" : Str), ("height" : Str), ("pages" : Str), ("lines" : Str), ("places" : Str), ("first" : Str), ("ends" : Str), ("columns" : Str), ("width" : Str), ("told" : Str), ("turn" : Str), ("row" : Str), ("end" : Str)]) (sc := defScope s_law) (by decide +kernel)))
    (dss_cons (ds_set c 3 (de_call G__law_items c (da_cons (de_var 2) da_nil)))
    (dss_cons (ds_set c 4 (de_add de_int (de_callIo G__law_take c 1 (pv 1) (da_cons de_int da_nil))))
    (dss_cons (ds_set c 5 (de_call G_best_pages c (da_cons (de_var 2) (da_cons (de_var 4) (da_cons de_int da_nil)))))
    (dss_cons (ds_set c 6 (de_call G_best_ragged c (da_cons (de_var 3) (da_cons (DF.sh (df_lst (da_cons (de_var 4) da_nil))) da_nil))))
    (dss_cons (ds_if (dt_w (dw_or (dt_cmp (cr_ne c) (de_cmp cr_is (de_var 5) de_non) (de_cmp cr_is (de_var 6) de_non)) (dw_or1 (dt_cmp (cr_ne c) (de_cmp cr_is (de_var 5) de_non) (de_cmp cr_gt (de_maxD c B (da_cons (DF.sh (df_lc [(("row" : Str), 14)] c (di_seq (de_var 2)) (lg_name 14) (fun _ _ _ _ _ => (dg_name c.blk 14)) (fun _ _ _ _ _ => dts_nil) (fun _ _ _ _ _ => (de_ix (de_var 14) de_int)) (ok := blkOk_by (N := [("script" : Str), ("deck" : Str), ("rows" : Str), ("items" : Str), ("height" : Str), ("pages" : Str), ("lines" : Str), ("places" : Str), ("first" : Str), ("ends" : Str), ("columns" : Str), ("width" : Str), ("told" : Str), ("turn" : Str), ("row" : Str), ("end" : Str)]) (sc := defScope s_law) (by decide +kernel)))) da_nil)) (de_var 4)))))) (dss_one (ds_ret de_bl)) dss_nil)
    (dss_cons (ds_if (dt_cmp cr_isNot (de_var 5) de_non) (dss_cons (ds_setLc 7 [(("end" : Str), 15)] c (di_seq (de_ix (de_var 6) de_int)) (lg_name 15) (fun _ _ _ _ _ => (dg_name c.blk 15)) (fun _ _ _ _ _ => dts_nil) (fun _ _ _ _ _ => (de_fdivW (de_add (de_var 15) de_int) de_int)) (ok := blkOk_by (N := [("script" : Str), ("deck" : Str), ("rows" : Str), ("items" : Str), ("height" : Str), ("pages" : Str), ("lines" : Str), ("places" : Str), ("first" : Str), ("ends" : Str), ("columns" : Str), ("width" : Str), ("told" : Str), ("turn" : Str), ("row" : Str), ("end" : Str)]) (sc := defScope s_law) (by decide +kernel)))
    (dss_cons (ds_if (dt_cmp (cr_ne c) (de_call G__law_plain c (da_cons (de_tup (da_cons (de_var 7) (da_cons (de_ix (de_var 6) de_int) da_nil))) da_nil)) (de_call G__law_plain c (da_cons (de_var 5) da_nil))) (dss_one (ds_ret de_bl)) dss_nil)
    (dss_cons (ds_set c 8 (de_call G_first_fit c (da_cons (de_var 2) (da_cons (de_var 4) (da_cons de_int da_nil)))))
    (dss_cons (ds_set c 9 (de_call G_filled_ragged c (da_cons (de_var 3) (da_cons (DF.sh (df_lst (da_cons (de_var 4) da_nil))) da_nil))))
    (dss_one (ds_if (dt_w (dw_or (dt_cmp (cr_ne c) (DF.sh (df_lc [(("end" : Str), 15)] c (di_seq (de_var 9)) (lg_name 15) (fun _ _ _ _ _ => (dg_name c.blk 15)) (fun _ _ _ _ _ => dts_nil) (fun _ _ _ _ _ => (de_fdivW (de_add (de_var 15) de_int) de_int)) (ok := blkOk_by (N := [("script" : Str), ("deck" : Str), ("rows" : Str), ("items" : Str), ("height" : Str), ("pages" : Str), ("lines" : Str), ("places" : Str), ("first" : Str), ("ends" : Str), ("columns" : Str), ("width" : Str), ("told" : Str), ("turn" : Str), ("row" : Str), ("end" : Str)]) (sc := defScope s_law) (by decide +kernel)))) (de_var 8)) (dw_or1 (dt_cmp (cr_ne c) (de_call G_least_lines c (da_cons (de_var 3) (da_cons (DF.sh (df_lst (da_cons (de_var 4) da_nil))) da_nil))) (de_len B (da_cons (de_var 8) da_nil)))))) (dss_one (ds_ret de_bl)) dss_nil)))))) dss_nil)
    (dss_cons (ds_set c 10 (de_add de_int (de_callIo G__law_take c 1 (pv 1) (da_cons de_int da_nil))))
    (dss_cons (ds_set c 11 (de_maxD c B (da_cons (DF.sh (df_lc [(("row" : Str), 14)] c (di_seq (de_var 2)) (lg_name 14) (fun _ _ _ _ _ => (dg_name c.blk 14)) (fun _ _ _ _ _ => dts_nil) (fun _ _ _ _ _ => (de_ix (de_var 14) de_int)) (ok := blkOk_by (N := [("script" : Str), ("deck" : Str), ("rows" : Str), ("items" : Str), ("height" : Str), ("pages" : Str), ("lines" : Str), ("places" : Str), ("first" : Str), ("ends" : Str), ("columns" : Str), ("width" : Str), ("told" : Str), ("turn" : Str), ("row" : Str), ("end" : Str)]) (sc := defScope s_law) (by decide +kernel)))) da_nil)))
    (dss_cons (ds_while (fun _ => 2000) po (dt_cmp cr_gt (de_call G_least_lines c (da_cons (de_var 3) (da_cons (DF.sh (df_lst (da_cons (de_var 11) da_nil))) da_nil))) (de_var 10)) (dss_one (ds_set c 11 (de_add (de_var 11) de_int))))
    (dss_cons (ds_if (dt_cmp (cr_ne c) (de_call G__law_plain c (da_cons (de_call G_least_height c (da_cons (de_var 2) (da_cons (de_var 10) da_nil))) da_nil)) (de_call G__law_plain c (da_cons (de_var 11) da_nil))) (dss_one (ds_ret de_bl)) dss_nil)
    (dss_cons (ds_set c 12 (de_call G_balanced c (da_cons (de_var 2) (da_cons (de_var 10) da_nil))))
    (dss_one (ds_ret (de_cmp (cr_eq c) (de_var 12) (de_tup (da_cons (de_var 11) (da_cons (DF.sh (df_lc [(("end" : Str), 15)] c (di_seq (de_call G_filled_ragged c (da_cons (de_var 3) (da_cons (DF.sh (df_lst (da_cons (de_var 11) da_nil))) da_nil)))) (lg_name 15) (fun _ _ _ _ _ => (dg_name c.blk 15)) (fun _ _ _ _ _ => dts_nil) (fun _ _ _ _ _ => (de_fdivW (de_add (de_var 15) de_int) de_int)) (ok := blkOk_by (N := [("script" : Str), ("deck" : Str), ("rows" : Str), ("items" : Str), ("height" : Str), ("pages" : Str), ("lines" : Str), ("places" : Str), ("first" : Str), ("ends" : Str), ("columns" : Str), ("width" : Str), ("told" : Str), ("turn" : Str), ("row" : Str), ("end" : Str)]) (sc := defScope s_law) (by decide +kernel)))) da_nil)))))))))))))))))))
end
def fa : List He.Fa := [.glo ("_law_deck" : Str), .glo ("_law_items" : Str), .glo ("is_integer" : Str), .glo ("is_row" : Str), .glo ("check_rows" : Str), .glo ("check_heights" : Str), .glo ("best_pages" : Str), .glo ("is_whole" : Str), .glo ("is_item" : Str), .glo ("is_items" : Str), .glo ("check_items" : Str), .glo ("check_paragraph" : Str), .glo ("is_break" : Str), .glo ("all_breaks" : Str), .glo ("is_forced" : Str), .glo ("line_between" : Str), .glo ("sums_of" : Str), .glo ("left_over" : Str), .glo ("width_at" : Str), .glo ("best_ragged" : Str), .glo ("check_columns" : Str), .glo ("filled_columns" : Str), .glo ("used" : Str), .glo ("balanced" : Str), .glo ("_law_take" : Str), .glo ("first_fit" : Str), .glo ("filled_ragged" : Str), .glo ("least_lines" : Str), .glo ("_law_plain" : Str), .glo ("least_height" : Str), .glo ("law" : Str), .glo ("Pages" : Str), .glo ("InvalidItems" : Str), .glo ("InvalidLength" : Str), .glo ("InvalidPages" : Str), .glo ("TooMany" : Str), .glo ("PressError" : Str), .free ("abs" : Str), .free ("all" : Str), .free ("any" : Str), .free ("bool" : Str), .free ("dict" : Str), .free ("enumerate" : Str), .free ("int" : Str), .free ("isinstance" : Str), .free ("len" : Str), .free ("list" : Str), .free ("max" : Str), .free ("min" : Str), .free ("range" : Str), .free ("reversed" : Str), .free ("set" : Str), .free ("sorted" : Str), .free ("str" : Str), .free ("sum" : Str), .free ("tuple" : Str), .free ("zip" : Str), .int ("FORCED" : Str) (-10000), .int ("MOST_ITEMS" : Str) (400), .int ("MOST_ROWS" : Str) (200), .int ("NEVER" : Str) (10000)]
def fn : List He.DefD := [⟨(("_law_deck" : Str), none), ("_law_deck" : Str), ("_law_deck" : Str), defArgs s__law_deck, defBody s__law_deck, defScope s__law_deck, [], []⟩, ⟨(("_law_items" : Str), none), ("_law_items" : Str), ("_law_items" : Str), defArgs s__law_items, defBody s__law_items, defScope s__law_items, [], []⟩, ⟨(("Pages" : Str), some ("__init__" : Str)), ("__init__" : Str), ("Pages.__init__" : Str), defArgs s_Pages___init__, defBody s_Pages___init__, defScope s_Pages___init__, [], []⟩, ⟨(("Pages" : Str), some ("ends" : Str)), ("ends" : Str), ("Pages.ends" : Str), defArgs s_Pages_ends, defBody s_Pages_ends, defScope s_Pages_ends, [], []⟩, ⟨(("Pages" : Str), some ("badness" : Str)), ("badness" : Str), ("Pages.badness" : Str), defArgs s_Pages_badness, defBody s_Pages_badness, defScope s_Pages_badness, [], []⟩, ⟨(("Pages" : Str), some ("least" : Str)), ("least" : Str), ("Pages.least" : Str), defArgs s_Pages_least, defBody s_Pages_least, defScope s_Pages_least, [], []⟩, ⟨(("is_integer" : Str), none), ("is_integer" : Str), ("is_integer" : Str), defArgs s_is_integer, defBody s_is_integer, defScope s_is_integer, [], []⟩, ⟨(("is_row" : Str), none), ("is_row" : Str), ("is_row" : Str), defArgs s_is_row, defBody s_is_row, defScope s_is_row, [], []⟩, ⟨(("check_rows" : Str), none), ("check_rows" : Str), ("check_rows" : Str), defArgs s_check_rows, defBody s_check_rows, defScope s_check_rows, [], []⟩, ⟨(("check_heights" : Str), none), ("check_heights" : Str), ("check_heights" : Str), defArgs s_check_heights, defBody s_check_heights, defScope s_check_heights, [], []⟩, ⟨(("best_pages" : Str), none), ("best_pages" : Str), ("best_pages" : Str), defArgs s_best_pages, defBody s_best_pages, defScope s_best_pages, [], []⟩, ⟨(("is_whole" : Str), none), ("is_whole" : Str), ("is_whole" : Str), defArgs s_is_whole, defBody s_is_whole, defScope s_is_whole, [], []⟩, ⟨(("is_item" : Str), none), ("is_item" : Str), ("is_item" : Str), defArgs s_is_item, defBody s_is_item, defScope s_is_item, [], []⟩, ⟨(("is_items" : Str), none), ("is_items" : Str), ("is_items" : Str), defArgs s_is_items, defBody s_is_items, defScope s_is_items, [], []⟩, ⟨(("check_items" : Str), none), ("check_items" : Str), ("check_items" : Str), defArgs s_check_items, defBody s_check_items, defScope s_check_items, [], []⟩, ⟨(("check_paragraph" : Str), none), ("check_paragraph" : Str), ("check_paragraph" : Str), defArgs s_check_paragraph, defBody s_check_paragraph, defScope s_check_paragraph, [], []⟩, ⟨(("is_break" : Str), none), ("is_break" : Str), ("is_break" : Str), defArgs s_is_break, defBody s_is_break, defScope s_is_break, [], []⟩, ⟨(("all_breaks" : Str), none), ("all_breaks" : Str), ("all_breaks" : Str), defArgs s_all_breaks, defBody s_all_breaks, defScope s_all_breaks, [], []⟩, ⟨(("is_forced" : Str), none), ("is_forced" : Str), ("is_forced" : Str), defArgs s_is_forced, defBody s_is_forced, defScope s_is_forced, [], []⟩, ⟨(("line_between" : Str), none), ("line_between" : Str), ("line_between" : Str), defArgs s_line_between, defBody s_line_between, defScope s_line_between, [], []⟩, ⟨(("sums_of" : Str), none), ("sums_of" : Str), ("sums_of" : Str), defArgs s_sums_of, defBody s_sums_of, defScope s_sums_of, [], []⟩, ⟨(("left_over" : Str), none), ("left_over" : Str), ("left_over" : Str), defArgs s_left_over, defBody s_left_over, defScope s_left_over, [], []⟩, ⟨(("width_at" : Str), none), ("width_at" : Str), ("width_at" : Str), defArgs s_width_at, defBody s_width_at, defScope s_width_at, [], []⟩, ⟨(("best_ragged" : Str), none), ("best_ragged" : Str), ("best_ragged" : Str), defArgs s_best_ragged, defBody s_best_ragged, defScope s_best_ragged, [], []⟩, ⟨(("check_columns" : Str), none), ("check_columns" : Str), ("check_columns" : Str), defArgs s_check_columns, defBody s_check_columns, defScope s_check_columns, [], []⟩, ⟨(("filled_columns" : Str), none), ("filled" : Str), ("filled" : Str), defArgs s_filled_columns, defBody s_filled_columns, defScope s_filled_columns, [], []⟩, ⟨(("used" : Str), none), ("used" : Str), ("used" : Str), defArgs s_used, defBody s_used, defScope s_used, [], []⟩, ⟨(("balanced" : Str), none), ("balanced" : Str), ("balanced" : Str), defArgs s_balanced, defBody s_balanced, defScope s_balanced, [], []⟩, ⟨(("_law_take" : Str), none), ("_law_take" : Str), ("_law_take" : Str), defArgs s__law_take, defBody s__law_take, defScope s__law_take, [], []⟩, ⟨(("first_fit" : Str), none), ("first_fit" : Str), ("first_fit" : Str), defArgs s_first_fit, defBody s_first_fit, defScope s_first_fit, [], []⟩, ⟨(("filled_ragged" : Str), none), ("filled" : Str), ("filled" : Str), defArgs s_filled_ragged, defBody s_filled_ragged, defScope s_filled_ragged, [], []⟩, ⟨(("least_lines" : Str), none), ("least_lines" : Str), ("least_lines" : Str), defArgs s_least_lines, defBody s_least_lines, defScope s_least_lines, [], []⟩, ⟨(("_law_plain" : Str), none), ("_law_plain" : Str), ("_law_plain" : Str), defArgs s__law_plain, defBody s__law_plain, defScope s__law_plain, [], []⟩, ⟨(("least_height" : Str), none), ("least_height" : Str), ("least_height" : Str), defArgs s_least_height, defBody s_least_height, defScope s_least_height, [], []⟩, ⟨(("law" : Str), none), ("law" : Str), ("law" : Str), defArgs s_law, defBody s_law, defScope s_law, [], []⟩, ⟨(("InvalidItems" : Str), some "__init__"), "__init__", "InvalidItems.__init__", defArgs i_InvalidItems, defBody i_InvalidItems, defScope i_InvalidItems, [], []⟩, ⟨(("InvalidLength" : Str), some "__init__"), "__init__", "InvalidLength.__init__", defArgs i_InvalidLength, defBody i_InvalidLength, defScope i_InvalidLength, [], []⟩, ⟨(("InvalidPages" : Str), some "__init__"), "__init__", "InvalidPages.__init__", defArgs i_InvalidPages, defBody i_InvalidPages, defScope i_InvalidPages, [], []⟩, ⟨(("TooMany" : Str), some "__init__"), "__init__", "TooMany.__init__", defArgs i_TooMany, defBody i_TooMany, defScope i_TooMany, [], []⟩]
def ex (K : PySem.W.Frag) : Bool := (ecB K ("InvalidItems" : Str) "what" && (ecB K ("InvalidLength" : Str) "what" && (ecB K ("InvalidPages" : Str) "what" && (ecB K ("TooMany" : Str) "what" && (peB K "PressError" && (exmB K errs && (clB K ("Pages" : Str) && (naB K ("Pages" : Str) ("count" : Str) && (naB K ("Pages" : Str) ("height" : Str) && (naB K ("Pages" : Str) ("rows" : Str) && (naB K ("Pages" : Str) ("rule" : Str) && (mtB K ("Pages" : Str) ("ends" : Str) && (mtB K ("Pages" : Str) ("badness" : Str) && (mtB K ("Pages" : Str) ("least" : Str) && mkB K ("Pages" : Str)))))))))))))))
abbrev R : PySem.W.OpenRow := PySem.W.OpenLaw.row PySem.Challenge.rw_presswork_k95_whole_lines_and_pages_alik
abbrev hk : PySem.W.Hook := hookY 4 fa fn ex
def ob (s : PySem.W.SharedT) : AlY := obsY 4 fa fn ex (HandSHeadRun.getT s)
theorem ob_eq (s : PySem.W.SharedT) : ob s = hk.obs s.abs := obsY_eq (HandSHeadRun.getT_eq s)
theorem run (w : World) : HandSHeadRun.RunEq R (PySem.W.view R.prog [50]) hk ob 3000 [("PressError" : Str), ("InvalidLength" : Str), ("InvalidItems" : Str), ("InvalidPages" : Str), ("TooMany" : Str), ("MOST_ITEMS" : Str), ("NEVER" : Str), ("FORCED" : Str), ("is_whole" : Str), ("is_item" : Str), ("is_items" : Str), ("check_items" : Str), ("check_paragraph" : Str), ("is_break" : Str), ("is_forced" : Str), ("all_breaks" : Str), ("line_between" : Str), ("sums_of" : Str), ("width_at" : Str), ("left_over" : Str), ("filled" : Str), ("filled_ragged" : Str), ("least_lines" : Str), ("best_ragged" : Str), ("MOST_ROWS" : Str), ("is_integer" : Str), ("is_row" : Str), ("check_rows" : Str), ("check_heights" : Str), ("used" : Str), ("Pages" : Str), ("best_pages" : Str), ("first_fit" : Str), ("check_columns" : Str), ("filled_columns" : Str), ("least_height" : Str), ("balanced" : Str), ("_law_deck" : Str), ("_law_take" : Str), ("_law_plain" : Str), ("_law_items" : Str)] w := by
  intro os
  kernel_rfl
def F_top : Prop := ∀ ns : List Int, ns.length ≤ 63 → ∃ q, F_law [.klst (ns.map .int)] = .ok (.bl true) q
theorem facts (top_ok : F_top) {P : Program} {w : World} {K : PySem.W.Frag} {h : Heap} {mg : Str → Option Value} {f : Addr} (X : K.In h) (G : h.Ns mainGlobals mg) (hfa : mg ("law" : Str) = some (.ref f)) (c : SaysY fa fn ex w K) :
    ∃ fd : FuncData, (∀ (s : Shared) (v : Value), BindsTo s fd ⟨[v], []⟩ [("script", v)]) ∧ ∀ base : Heap, K.In base → base.Ns mainGlobals mg → FnOk P w K mg base (L2.CX P w) 7 f fd ["script"] (spTop K) := by
  have more : ex K = true := c.more
  have c := c.t.d
  obtain ⟨fd__law_deck, D__law_deck⟩ := c.def_ 0 (d := fn[0]) rfl
  obtain ⟨fd__law_items, D__law_items⟩ := c.def_ 1 (d := fn[1]) rfl
  obtain ⟨fd_Pages___init__, D_Pages___init__⟩ := c.def_ 2 (d := fn[2]) rfl
  obtain ⟨fd_Pages_ends, D_Pages_ends⟩ := c.def_ 3 (d := fn[3]) rfl
  obtain ⟨fd_Pages_badness, D_Pages_badness⟩ := c.def_ 4 (d := fn[4]) rfl
  obtain ⟨fd_Pages_least, D_Pages_least⟩ := c.def_ 5 (d := fn[5]) rfl
  obtain ⟨fd_is_integer, D_is_integer⟩ := c.def_ 6 (d := fn[6]) rfl
  obtain ⟨fd_is_row, D_is_row⟩ := c.def_ 7 (d := fn[7]) rfl
  obtain ⟨fd_check_rows, D_check_rows⟩ := c.def_ 8 (d := fn[8]) rfl
  obtain ⟨fd_check_heights, D_check_heights⟩ := c.def_ 9 (d := fn[9]) rfl
  obtain ⟨fd_best_pages, D_best_pages⟩ := c.def_ 10 (d := fn[10]) rfl
  obtain ⟨fd_is_whole, D_is_whole⟩ := c.def_ 11 (d := fn[11]) rfl
  obtain ⟨fd_is_item, D_is_item⟩ := c.def_ 12 (d := fn[12]) rfl
  obtain ⟨fd_is_items, D_is_items⟩ := c.def_ 13 (d := fn[13]) rfl
  obtain ⟨fd_check_items, D_check_items⟩ := c.def_ 14 (d := fn[14]) rfl
  obtain ⟨fd_check_paragraph, D_check_paragraph⟩ := c.def_ 15 (d := fn[15]) rfl
  obtain ⟨fd_is_break, D_is_break⟩ := c.def_ 16 (d := fn[16]) rfl
  obtain ⟨fd_all_breaks, D_all_breaks⟩ := c.def_ 17 (d := fn[17]) rfl
  obtain ⟨fd_is_forced, D_is_forced⟩ := c.def_ 18 (d := fn[18]) rfl
  obtain ⟨fd_line_between, D_line_between⟩ := c.def_ 19 (d := fn[19]) rfl
  obtain ⟨fd_sums_of, D_sums_of⟩ := c.def_ 20 (d := fn[20]) rfl
  obtain ⟨fd_left_over, D_left_over⟩ := c.def_ 21 (d := fn[21]) rfl
  obtain ⟨fd_width_at, D_width_at⟩ := c.def_ 22 (d := fn[22]) rfl
  obtain ⟨fd_best_ragged, D_best_ragged⟩ := c.def_ 23 (d := fn[23]) rfl
  obtain ⟨fd_check_columns, D_check_columns⟩ := c.def_ 24 (d := fn[24]) rfl
  obtain ⟨fd_filled_columns, D_filled_columns⟩ := c.def_ 25 (d := fn[25]) rfl
  obtain ⟨fd_used, D_used⟩ := c.def_ 26 (d := fn[26]) rfl
  obtain ⟨fd_balanced, D_balanced⟩ := c.def_ 27 (d := fn[27]) rfl
  obtain ⟨fd__law_take, D__law_take⟩ := c.def_ 28 (d := fn[28]) rfl
  obtain ⟨fd_first_fit, D_first_fit⟩ := c.def_ 29 (d := fn[29]) rfl
  obtain ⟨fd_filled_ragged, D_filled_ragged⟩ := c.def_ 30 (d := fn[30]) rfl
  obtain ⟨fd_least_lines, D_least_lines⟩ := c.def_ 31 (d := fn[31]) rfl
  obtain ⟨fd__law_plain, D__law_plain⟩ := c.def_ 32 (d := fn[32]) rfl
  obtain ⟨fd_least_height, D_least_height⟩ := c.def_ 33 (d := fn[33]) rfl
  obtain ⟨fd_law, D_law⟩ := c.def_ 34 (d := fn[34]) rfl
  obtain ⟨fd_InvalidItems, D_InvalidItems⟩ := c.def_ 35 (d := fn[35]) rfl
  obtain ⟨fd_InvalidLength, D_InvalidLength⟩ := c.def_ 36 (d := fn[36]) rfl
  obtain ⟨fd_InvalidPages, D_InvalidPages⟩ := c.def_ 37 (d := fn[37]) rfl
  obtain ⟨fd_TooMany, D_TooMany⟩ := c.def_ 38 (d := fn[38]) rfl
  have m__law_deck := He.glo_ok X G (c.fact 0 (f := .glo ("_law_deck" : Str)) rfl)
  have m__law_items := He.glo_ok X G (c.fact 1 (f := .glo ("_law_items" : Str)) rfl)
  have m_is_integer := He.glo_ok X G (c.fact 2 (f := .glo ("is_integer" : Str)) rfl)
  have m_is_row := He.glo_ok X G (c.fact 3 (f := .glo ("is_row" : Str)) rfl)
  have m_check_rows := He.glo_ok X G (c.fact 4 (f := .glo ("check_rows" : Str)) rfl)
  have m_check_heights := He.glo_ok X G (c.fact 5 (f := .glo ("check_heights" : Str)) rfl)
  have m_best_pages := He.glo_ok X G (c.fact 6 (f := .glo ("best_pages" : Str)) rfl)
  have m_is_whole := He.glo_ok X G (c.fact 7 (f := .glo ("is_whole" : Str)) rfl)
  have m_is_item := He.glo_ok X G (c.fact 8 (f := .glo ("is_item" : Str)) rfl)
  have m_is_items := He.glo_ok X G (c.fact 9 (f := .glo ("is_items" : Str)) rfl)
  have m_check_items := He.glo_ok X G (c.fact 10 (f := .glo ("check_items" : Str)) rfl)
  have m_check_paragraph := He.glo_ok X G (c.fact 11 (f := .glo ("check_paragraph" : Str)) rfl)
  have m_is_break := He.glo_ok X G (c.fact 12 (f := .glo ("is_break" : Str)) rfl)
  have m_all_breaks := He.glo_ok X G (c.fact 13 (f := .glo ("all_breaks" : Str)) rfl)
  have m_is_forced := He.glo_ok X G (c.fact 14 (f := .glo ("is_forced" : Str)) rfl)
  have m_line_between := He.glo_ok X G (c.fact 15 (f := .glo ("line_between" : Str)) rfl)
  have m_sums_of := He.glo_ok X G (c.fact 16 (f := .glo ("sums_of" : Str)) rfl)
  have m_left_over := He.glo_ok X G (c.fact 17 (f := .glo ("left_over" : Str)) rfl)
  have m_width_at := He.glo_ok X G (c.fact 18 (f := .glo ("width_at" : Str)) rfl)
  have m_best_ragged := He.glo_ok X G (c.fact 19 (f := .glo ("best_ragged" : Str)) rfl)
  have m_check_columns := He.glo_ok X G (c.fact 20 (f := .glo ("check_columns" : Str)) rfl)
  have m_filled_columns := He.glo_ok X G (c.fact 21 (f := .glo ("filled_columns" : Str)) rfl)
  have m_used := He.glo_ok X G (c.fact 22 (f := .glo ("used" : Str)) rfl)
  have m_balanced := He.glo_ok X G (c.fact 23 (f := .glo ("balanced" : Str)) rfl)
  have m__law_take := He.glo_ok X G (c.fact 24 (f := .glo ("_law_take" : Str)) rfl)
  have m_first_fit := He.glo_ok X G (c.fact 25 (f := .glo ("first_fit" : Str)) rfl)
  have m_filled_ragged := He.glo_ok X G (c.fact 26 (f := .glo ("filled_ragged" : Str)) rfl)
  have m_least_lines := He.glo_ok X G (c.fact 27 (f := .glo ("least_lines" : Str)) rfl)
  have m__law_plain := He.glo_ok X G (c.fact 28 (f := .glo ("_law_plain" : Str)) rfl)
  have m_least_height := He.glo_ok X G (c.fact 29 (f := .glo ("least_height" : Str)) rfl)
  have m_law := He.glo_ok X G (c.fact 30 (f := .glo ("law" : Str)) rfl)
  have m_Pages := He.glo_ok X G (c.fact 31 (f := .glo ("Pages" : Str)) rfl)
  have m_InvalidItems := He.glo_ok X G (c.fact 32 (f := .glo ("InvalidItems" : Str)) rfl)
  have m_InvalidLength := He.glo_ok X G (c.fact 33 (f := .glo ("InvalidLength" : Str)) rfl)
  have m_InvalidPages := He.glo_ok X G (c.fact 34 (f := .glo ("InvalidPages" : Str)) rfl)
  have m_TooMany := He.glo_ok X G (c.fact 35 (f := .glo ("TooMany" : Str)) rfl)
  have m_PressError := He.glo_ok X G (c.fact 36 (f := .glo ("PressError" : Str)) rfl)
  have h_FORCED := He.int_ok X G (c.fact 57 (f := .int ("FORCED" : Str) (-10000)) rfl)
  have h_MOST_ITEMS := He.int_ok X G (c.fact 58 (f := .int ("MOST_ITEMS" : Str) (400)) rfl)
  have h_MOST_ROWS := He.int_ok X G (c.fact 59 (f := .int ("MOST_ROWS" : Str) (200)) rfl)
  have h_NEVER := He.int_ok X G (c.fact 60 (f := .int ("NEVER" : Str) (10000)) rfl)
  have B : Bi mg := ⟨He.free_ok X G (c.fact 45 (f := .free ("len" : Str)) rfl), He.free_ok X G (c.fact 37 (f := .free ("abs" : Str)) rfl), He.free_ok X G (c.fact 47 (f := .free ("max" : Str)) rfl), He.free_ok X G (c.fact 48 (f := .free ("min" : Str)) rfl), He.free_ok X G (c.fact 43 (f := .free ("int" : Str)) rfl), He.free_ok X G (c.fact 54 (f := .free ("sum" : Str)) rfl), He.free_ok X G (c.fact 49 (f := .free ("range" : Str)) rfl), He.free_ok X G (c.fact 46 (f := .free ("list" : Str)) rfl), He.free_ok X G (c.fact 55 (f := .free ("tuple" : Str)) rfl), He.free_ok X G (c.fact 52 (f := .free ("sorted" : Str)) rfl), He.free_ok X G (c.fact 51 (f := .free ("set" : Str)) rfl), He.free_ok X G (c.fact 56 (f := .free ("zip" : Str)) rfl), He.free_ok X G (c.fact 42 (f := .free ("enumerate" : Str)) rfl), He.free_ok X G (c.fact 50 (f := .free ("reversed" : Str)) rfl), He.free_ok X G (c.fact 44 (f := .free ("isinstance" : Str)) rfl), He.free_ok X G (c.fact 53 (f := .free ("str" : Str)) rfl), He.free_ok X G (c.fact 40 (f := .free ("bool" : Str)) rfl), He.free_ok X G (c.fact 41 (f := .free ("dict" : Str)) rfl), He.free_ok X G (c.fact 39 (f := .free ("any" : Str)) rfl), He.free_ok X G (c.fact 38 (f := .free ("all" : Str)) rfl)⟩
  unfold ex at more
  simp only [Bool.and_eq_true] at more
  obtain ⟨x_InvalidItems, x_InvalidLength, x_InvalidPages, x_TooMany, x_pe, exm, cb_Pages, nb_Pages_count, nb_Pages_height, nb_Pages_rows, nb_Pages_rule, tb_Pages_ends, tb_Pages_badness, tb_Pages_least, kb_Pages___init__⟩ := more
  have cl_Pages := clB_ok cb_Pages
  have na_Pages_count := naB_ok nb_Pages_count
  have na_Pages_height := naB_ok nb_Pages_height
  have na_Pages_rows := naB_ok nb_Pages_rows
  have na_Pages_rule := naB_ok nb_Pages_rule
  have T := peB_ok x_pe
  have hms : ∀ y ∈ errs, mg y = some (.ref (He.ga K y)) := by
    intro y hy
    simp only [errs, List.mem_cons, List.not_mem_nil, or_false] at hy
    rcases hy with rfl | rfl | rfl | rfl
    · exact m_InvalidItems
    · exact m_InvalidLength
    · exact m_InvalidPages
    · exact m_TooMany
  have e := hfa.symm.trans m_law
  cases e
  refine ⟨fd_law, fun s v => FunD.bindsA (ps := ["script"]) D_law (fun _ _ _ _ _ _ us hl => match us, hl with | [_], _ => rfl) s [v] rfl, fun base _ _ => ?_⟩
  have e_InvalidItems : Ec P w K mg base ("InvalidItems" : Str) "what" := E_InvalidItems (ecB_ok x_InvalidItems) m_InvalidItems T m_PressError D_InvalidItems
  have e_InvalidLength : Ec P w K mg base ("InvalidLength" : Str) "what" := E_InvalidLength (ecB_ok x_InvalidLength) m_InvalidLength T m_PressError D_InvalidLength
  have e_InvalidPages : Ec P w K mg base ("InvalidPages" : Str) "what" := E_InvalidPages (ecB_ok x_InvalidPages) m_InvalidPages T m_PressError D_InvalidPages
  have e_TooMany : Ec P w K mg base ("TooMany" : Str) "what" := E_TooMany (ecB_ok x_TooMany) m_TooMany T m_PressError D_TooMany
  have g__law_deck : Fd P w K mg base ("_law_deck" : Str) 1 false true 3 F__law_deck := G__law_deck B D__law_deck m__law_deck
  have g__law_items : Fd P w K mg base ("_law_items" : Str) 1 false false 1 F__law_items := G__law_items B D__law_items m__law_items
  have g_Pages___init__ : Cn P w K mg base ("Pages" : Str) 1 4 F_Pages___init__ := G_Pages___init__ B cl_Pages na_Pages_count na_Pages_height na_Pages_rows na_Pages_rule D_Pages___init__ (mkB_ok kb_Pages___init__) m_Pages
  have g_Pages_ends : Md P w K mg base ("Pages" : Str) ("ends" : Str) 1 false 2 F_Pages_ends := G_Pages_ends B cl_Pages na_Pages_count na_Pages_height na_Pages_rows na_Pages_rule D_Pages_ends (mtB_ok tb_Pages_ends)
  have g_Pages_badness : Md P w K mg base ("Pages" : Str) ("badness" : Str) 1 false 3 F_Pages_badness := G_Pages_badness B cl_Pages na_Pages_count na_Pages_height na_Pages_rows D_Pages_badness (mtB_ok tb_Pages_badness)
  have g_Pages_least : Md P w K mg base ("Pages" : Str) ("least" : Str) 2 false 1 F_Pages_least := G_Pages_least B g_Pages_ends g_Pages_badness cl_Pages na_Pages_count D_Pages_least (mtB_ok tb_Pages_least)
  have g_is_integer : Fd P w K mg base ("is_integer" : Str) 1 false false 2 F_is_integer := G_is_integer B D_is_integer m_is_integer
  have g_is_row : Fd P w K mg base ("is_row" : Str) 2 false false 1 F_is_row := G_is_row B g_is_integer D_is_row m_is_row
  have g_check_rows : Fd P w K mg base ("check_rows" : Str) 3 false false 1 F_check_rows := G_check_rows B h_MOST_ROWS e_InvalidPages e_TooMany g_is_row D_check_rows m_check_rows
  have g_check_heights : Fd P w K mg base ("check_heights" : Str) 4 false false 3 F_check_heights := G_check_heights B e_InvalidPages g_check_rows D_check_heights m_check_heights
  have g_best_pages : Fd P w K mg base ("best_pages" : Str) 5 false false 3 F_best_pages := G_best_pages B g_Pages___init__ g_Pages_ends g_Pages_badness g_Pages_least g_check_heights D_best_pages m_best_pages
  have g_is_whole : Fd P w K mg base ("is_whole" : Str) 1 false false 1 F_is_whole := G_is_whole B D_is_whole m_is_whole
  have g_is_item : Fd P w K mg base ("is_item" : Str) 2 false false 1 F_is_item := G_is_item B h_FORCED h_NEVER g_is_whole D_is_item m_is_item
  have g_is_items : Fd P w K mg base ("is_items" : Str) 3 false false 1 F_is_items := G_is_items B h_FORCED g_is_item D_is_items m_is_items
  have g_check_items : Fd P w K mg base ("check_items" : Str) 4 false false 1 F_check_items := G_check_items B e_InvalidItems g_is_items D_check_items m_check_items
  have g_check_paragraph : Fd P w K mg base ("check_paragraph" : Str) 5 false false 2 F_check_paragraph := G_check_paragraph B h_MOST_ITEMS e_InvalidLength e_TooMany g_check_items D_check_paragraph m_check_paragraph
  have g_is_break : Fd P w K mg base ("is_break" : Str) 1 false false 2 F_is_break := G_is_break B h_NEVER D_is_break m_is_break
  have g_all_breaks : Fd P w K mg base ("all_breaks" : Str) 2 false false 1 F_all_breaks := G_all_breaks B g_is_break D_all_breaks m_all_breaks
  have g_is_forced : Fd P w K mg base ("is_forced" : Str) 1 false false 2 F_is_forced := G_is_forced B h_FORCED D_is_forced m_is_forced
  have g_line_between : Fd P w K mg base ("line_between" : Str) 2 false false 3 F_line_between := G_line_between B g_is_forced D_line_between m_line_between
  have g_sums_of : Fd P w K mg base ("sums_of" : Str) 1 false false 3 F_sums_of := G_sums_of B D_sums_of m_sums_of
  have g_left_over : Fd P w K mg base ("left_over" : Str) 3 false false 4 F_left_over := G_left_over B g_line_between g_sums_of D_left_over m_left_over
  have g_width_at : Fd P w K mg base ("width_at" : Str) 1 false false 2 F_width_at := G_width_at B D_width_at m_width_at
  have g_best_ragged : Fd P w K mg base ("best_ragged" : Str) 6 false false 2 F_best_ragged := G_best_ragged B g_check_paragraph g_all_breaks g_left_over g_width_at D_best_ragged m_best_ragged
  have g_check_columns : Fd P w K mg base ("check_columns" : Str) 4 false false 2 F_check_columns := G_check_columns B e_InvalidPages g_check_rows D_check_columns m_check_columns
  have g_filled_columns : Fd P w K mg base ("filled_columns" : Str) 3 false false 3 F_filled_columns := G_filled_columns B g_Pages___init__ g_Pages_ends D_filled_columns m_filled_columns
  have g_used : Fd P w K mg base ("used" : Str) 1 false false 2 F_used := G_used B D_used m_used
  have g_balanced : Fd P w K mg base ("balanced" : Str) 5 false false 2 F_balanced := G_balanced B g_Pages___init__ g_Pages_ends g_check_columns g_filled_columns g_used D_balanced m_balanced
  have g__law_take : Fd P w K mg base ("_law_take" : Str) 1 true false 2 F__law_take := G__law_take B D__law_take m__law_take
  have g_first_fit : Fd P w K mg base ("first_fit" : Str) 5 false false 3 F_first_fit := G_first_fit B g_Pages___init__ g_Pages_ends g_check_heights D_first_fit m_first_fit
  have g_filled_ragged : Fd P w K mg base ("filled_ragged" : Str) 6 false false 2 F_filled_ragged := G_filled_ragged B g_check_paragraph g_all_breaks g_left_over g_width_at D_filled_ragged m_filled_ragged
  have g_least_lines : Fd P w K mg base ("least_lines" : Str) 6 false false 2 F_least_lines := G_least_lines B e_InvalidLength g_check_paragraph g_all_breaks g_left_over D_least_lines m_least_lines
  have g__law_plain : Fd P w K mg base ("_law_plain" : Str) 6 false false 1 F__law_plain := G__law_plain B D__law_plain m__law_plain 5
  have g_least_height : Fd P w K mg base ("least_height" : Str) 6 false false 2 F_least_height := G_least_height B g_balanced D_least_height m_least_height
  exact fd_top (G_law B g__law_deck g__law_items g_best_pages g_best_ragged g_balanced g__law_take g_first_fit g_filled_ragged g_least_lines g__law_plain g_least_height D_law m_law) top_ok
end PL.K95

set_option Elab.async false
set_option linter.all false
set_option maxRecDepth 100000
set_option maxHeartbeats 4000000
namespace PL.K95
open PySem PySem.Spec L2 PL
set_option autoImplicit false
/-! ### the items -/
inductive Item
  | box (w : Nat) (t : Str)
  | glue (w a b : Nat)
  | pen (w : Nat) (c : Int) (f : Bool)
def itP : Item → PV
  | .box w t => .tup [.str "box", .int w, .str t]
  | .glue w a b => .tup [.str "glue", .int w, .int a, .int b]
  | .pen w c f => .tup [.str "penalty", .int w, .int c, .bl f]
def Item.ok : Item → Prop
  | .box w t => True
  | .glue w a b => b ≤ w
  | .pen w c f => -10000 ≤ c ∧ c ≤ 10000
def Item.sm : Item → Prop
  | .box w t => w ≤ 100
  | .glue w a b => w ≤ 100 ∧ a ≤ 100 ∧ b ≤ 100
  | .pen w c f => w ≤ 100
def Item.tx : Item → Prop
  | .box w t => PyData.canLay0 (.str t) = true
  | _ => True
def kind : Item → Str
  | .box .. => "box"
  | .glue .. => "glue"
  | .pen .. => "penalty"
def isBox : Item → Bool
  | .box .. => true
  | _ => false
def isGlue : Item → Bool
  | .glue .. => true
  | _ => false
def isPen : Item → Bool
  | .pen .. => true
  | _ => false
theorem ix0 (i : Item) : gIx (itP i) (.int 0) = some (.str (kind i)) := by cases i <;> rfl
theorem kd_box (i : Item) : gEq (.str (kind i)) (.str "box") = some (.bl (isBox i)) := by cases i <;> kernel_rfl
theorem kd_glue (i : Item) : gEq (.str (kind i)) (.str "glue") = some (.bl (isGlue i)) := by cases i <;> kernel_rfl
theorem kd_pen (i : Item) : gEq (.str (kind i)) (.str "penalty") = some (.bl (isPen i)) := by cases i <;> kernel_rfl
theorem kn_box (i : Item) : gNe (.str (kind i)) (.str "box") = some (.bl (!isBox i)) := by cases i <;> kernel_rfl
theorem kn_pen (i : Item) : gNe (.str (kind i)) (.str "penalty") = some (.bl (!isPen i)) := by cases i <;> kernel_rfl
theorem is1 (a : Int) : gIsi "int" (.int a) = some (.bl true) := by kernel_rfl
theorem is2 (a : Int) : gIsi "bool" (.int a) = some (.bl false) := by kernel_rfl
theorem is3 (l : List PV) : gIsi "tuple" (.tup l) = some (.bl true) := by kernel_rfl
theorem is4 (x : Str) : gIsi "str" (.str x) = some (.bl true) := by kernel_rfl
theorem is5 (b : Bool) : gIsi "bool" (.bl b) = some (.bl true) := by kernel_rfl

theorem tr_tup (p : PV) (l : List PV) : truth (.tup (p :: l)) = some true := rfl
theorem F_is_whole_ok (a : Int) : F_is_whole [.int a] = .ok (.bl true) .non := by
  simp [F_is_whole, den_is_whole, runD, argSl, List.replicate, fin0, is1, is2, tr_bl]
theorem k_bb : gEq (.str "box") (.str "box") = some (.bl true) := by kernel_rfl
theorem k_gb : gEq (.str "glue") (.str "box") = some (.bl false) := by kernel_rfl
theorem k_pb : gEq (.str "penalty") (.str "box") = some (.bl false) := by kernel_rfl
theorem k_gg : gEq (.str "glue") (.str "glue") = some (.bl true) := by kernel_rfl
theorem k_pg : gEq (.str "penalty") (.str "glue") = some (.bl false) := by kernel_rfl
theorem k_pp : gEq (.str "penalty") (.str "penalty") = some (.bl true) := by kernel_rfl
theorem F_is_item_ok (i : Item) (h : i.ok) : F_is_item [itP i] = .ok (.bl true) .non := by
  cases i with
  | box w t => simp [F_is_item, den_is_item, runD, argSl, List.replicate, fin0, itP, k_bb, F_is_whole_ok, is3, is4, is5, tr_bl, tr_tup, at0, at1, at2, at3]
  | glue w a b =>
    have h : b ≤ w := h
    have hw : ¬ (w : Int) < 0 := by omega
    simp [F_is_item, den_is_item, runD, argSl, List.replicate, fin0, itP, k_gb, k_gg, F_is_whole_ok, is3, is4, is5, tr_bl, tr_tup, at0, at1, at2, at3, h, hw]
  | pen w c f =>
    obtain ⟨h1, h2⟩ : -10000 ≤ c ∧ c ≤ 10000 := h
    have hw : ¬ (w : Int) < 0 := by omega
    simp [F_is_item, den_is_item, runD, argSl, List.replicate, fin0, itP, k_pb, k_pg, k_pp, F_is_whole_ok, is3, is4, is5, tr_bl, tr_tup, at0, at1, at2, at3, c_FORCED, c_NEVER, h1, h2, hw]
theorem px2 (w : Nat) (c : Int) (f : Bool) : gIx (itP (.pen w c f)) (.int 2) = some (.int c) := rfl
def itsP (l : List Item) : PV := .lst (l.map itP)
theorem ix_items (l : List Item) (i : Nat) (h : i < l.length) : gIx (itsP l) (.int (i : Nat)) = some (itP l[i]) := by
  show atI (l.map itP) (i : Nat) = _
  rw [atI_nat (by simpa using h)]
  simp
def brk (l : List Item) (i : Nat) : Bool := match l[i]? with
  | some (.pen _ c _) => decide (c < 10000)
  | some (.glue _ _ _) => decide (0 < i) && (match l[i - 1]? with
    | some x => isBox x
    | none => false)
  | _ => false
theorem F_is_break_ok (l : List Item) (i : Nat) (h : i < l.length) : F_is_break [itsP l, .int (i : Nat)] = .ok (.bl (brk l i)) .non := by
  have e := ix_items l i h
  unfold brk
  rw [List.getElem?_eq_getElem h]
  cases hx : l[i] with
  | box w t =>
    rw [hx] at e
    simp [F_is_break, den_is_break, runD, argSl, List.replicate, fin0, tr_bl, e, ix0, kd_pen, kd_glue, isPen, isGlue]
  | pen w c f =>
    rw [hx] at e
    simp [F_is_break, den_is_break, runD, argSl, List.replicate, fin0, tr_bl, e, ix0, kd_pen, kd_glue, isPen, isGlue, px2, c_NEVER]
  | glue w a b =>
    rw [hx] at e
    by_cases hz : 0 < i
    · have e2 := ix_items l (i - 1) (by omega)
      have e3 : ((i - 1 : Nat) : Int) = (i : Int) - 1 := by omega
      rw [e3] at e2
      rw [List.getElem?_eq_getElem (by omega : i - 1 < l.length)]
      simp [F_is_break, den_is_break, runD, argSl, List.replicate, fin0, tr_bl, e, e2, ix0, kd_pen, kd_glue, kd_box, isPen, isGlue, hz]
    · simp [F_is_break, den_is_break, runD, argSl, List.replicate, fin0, tr_bl, e, ix0, kd_pen, kd_glue, isPen, isGlue, hz]
def frc (l : List Item) (i : Nat) : Bool := match l[i]? with
  | some (.pen _ c _) => decide (c = -10000)
  | _ => false
theorem F_is_forced_ok (l : List Item) (i : Nat) (h : i < l.length) : F_is_forced [itsP l, .int (i : Nat)] = .ok (.bl (frc l i)) .non := by
  have e := ix_items l i h
  unfold frc
  rw [List.getElem?_eq_getElem h]
  cases hx : l[i] with
  | box w t =>
    rw [hx] at e
    simp [F_is_forced, den_is_forced, runD, argSl, List.replicate, fin0, tr_bl, e, ix0, kd_pen, isPen]
  | pen w c f =>
    rw [hx] at e
    simp [F_is_forced, den_is_forced, runD, argSl, List.replicate, fin0, tr_bl, e, ix0, kd_pen, isPen, px2, c_FORCED]
  | glue w a b =>
    rw [hx] at e
    simp [F_is_forced, den_is_forced, runD, argSl, List.replicate, fin0, tr_bl, e, ix0, kd_pen, isPen]
def nP (l : List Nat) : PV := .lst (l.map fun i : Nat => PV.int (i : Nat))
def brks (l : List Item) : List Nat := (List.range l.length).filter (brk l)
theorem F_all_breaks_ok (l : List Item) (h : l.length ≤ 400) : F_all_breaks [itsP l] = .ok (nP (brks l)) .non := by
  have h1 : l.length ≤ sizeLine := szn (by omega)
  have L : dLc [1] (iR1 (dCons (dN gLenN (dCons (dVar 0) dNil)) dNil)) (gName 1) T_all_breaks_1 E_all_breaks_1 [.sh (itsP l), .un] = .ok (nP (brks l)) [.sh (itsP l), .un] :=
    dLc_okF (fun i : Nat => PV.int (i : Nat)) (fun i : Nat => PV.int (i : Nat)) (brk l) (List.range l.length) (by simp [itsP, rangeP_map, h1, rg1_nat (show l.length ≤ 1000000000 by omega)]) rfl (by simp; omega)
      (fun c hc => by simp [T_all_breaks_1, Sl.lock, F_is_break_ok l c (List.mem_range.mp hc), tr_bl]) (fun c hc _ => by simp [E_all_breaks_1, Sl.lock])
  refine run_rt (env := [.sh (itsP l), .un]) (ρ := [.sh (itsP l), .un]) ?_
  unfold den_all_breaks
  rw [ap_sRet, L]
  rfl
theorem F_check_one (l : List Item) (h : ∀ i ∈ l, i.ok) (hl : l.length ≤ 400) : dLc [1] (iSeq (dVar 0)) (gName 1) T_is_items_1 E_is_items_1 [.sh (itsP l), .un] = .ok (.lst []) [.sh (itsP l), .un] := by
  have L := dLc_okF (T := T_is_items_1) (E := E_is_items_1) (i := 1) (di := iSeq (dVar 0)) (ρ := [.sh (itsP l), .un]) itP itP (fun _ => false) l (by simp [itsP]) rfl (by omega)
    (fun c hc => by simp [T_is_items_1, Sl.lock, F_is_item_ok c (h c hc), tr_bl]) (fun c hc e => nomatch e)
  have e : List.filter (fun _ : Item => false) l = [] := by simp
  rw [e] at L
  exact L
theorem F_check_two (l : List Item) (hl : l.length ≤ 400) : dLc [1] (iSeq (dVar 0)) (gName 1) T_is_items_2 E_is_items_2 [.sh (itsP l), .un] = .ok (itsP (l.filter isBox)) [.sh (itsP l), .un] :=
  dLc_okF (T := T_is_items_2) (E := E_is_items_2) (i := 1) (di := iSeq (dVar 0)) (ρ := [.sh (itsP l), .un]) itP itP isBox l (by simp [itsP]) rfl (by omega)
    (fun c hc => by simp [T_is_items_2, Sl.lock, ix0, kd_box]) (fun c hc _ => by simp [E_is_items_2, Sl.lock])
theorem ix_last (l : List Item) (x : Item) : gIx (itsP (l ++ [x])) (.int (-1)) = some (itP x) := by
  show atI ((l ++ [x]).map itP) (-1) = _
  unfold atI ixN
  have e : ((l ++ [x]).map itP).length = l.length + 1 := by simp
  rw [e, if_neg (by omega), if_pos (by omega)]
  have e2 : ((-1 : Int) + ((l.length + 1 : Nat) : Int)).toNat = l.length := by omega
  rw [e2]
  simp
structure Good (l : List Item) : Prop where
  ok : ∀ i ∈ l, i.ok
  len : l.length ≤ 400
  last : ∃ m, l = m ++ [.pen 0 (-10000) false]
  box : ∃ i ∈ l, isBox i = true
  sm : ∀ i ∈ l, i.sm
  tx : ∀ i ∈ l, i.tx
theorem F_is_items_ok {l : List Item} (g : Good l) : F_is_items [itsP l] = .ok (.bl true) .non := by
  have h1 := F_check_one l g.ok g.len
  have h2 := F_check_two l g.len
  obtain ⟨m, e⟩ := g.last
  have h3 : gIx (itsP l) (.int (-1)) = some (itP (.pen 0 (-10000) false)) := by rw [e]; exact ix_last _ _
  have h4 : 0 < (l.filter isBox).length := by
    obtain ⟨i, hi, hb⟩ := g.box
    exact List.length_pos_of_mem (List.mem_filter.mpr ⟨hi, hb⟩)
  have h5 : (l.filter isBox).length ≤ sizeLine := szn (by have := List.length_filter_le isBox l; have := g.len; omega)
  refine run_rt (env := [.sh (itsP l), .un]) (ρ := [.sh (itsP l), .un]) ?_
  unfold den_is_items
  have t1 : truth (itsP l) = some true := by rw [e]; cases m <;> rfl
  have S1 : sIf (bOr (bNot (bTruV 0)) (bTru (dLc [1] (iSeq (dVar 0)) (gName 1) T_is_items_1 E_is_items_1))) (sRet (dC (.bl false))) sNx [.sh (itsP l), .un] = .nx [.sh (itsP l), .un] := by
    simp [h1, t1, show truth (.lst []) = some false from rfl, -ap_dLc]
  rw [seq_nx S1]
  have S2 : sIf (bOr (bVal (d2 gNe (d2 gIx (d2 gIx (dVar 0) (dNeg (dC (.int 1)))) (dC (.int 0))) (dC (.str ("penalty" : Str))))) (bVal (d2 gNe (d2 gIx (d2 gIx (dVar 0) (dNeg (dC (.int 1)))) (dC (.int 2))) (dC c_FORCED)))) (sRet (dC (.bl false))) sNx [.sh (itsP l), .un] = .nx [.sh (itsP l), .un] := by
    simp [h3, ix0, kn_pen, isPen, px2, c_FORCED]
  rw [seq_nx S2, ap_sRet]
  have S3 : d2 gGt (dN gLenN (dCons (dLc [1] (iSeq (dVar 0)) (gName 1) T_is_items_2 E_is_items_2) dNil)) (dC (.int 0)) [.sh (itsP l), .un] = .ok (.bl true) [.sh (itsP l), .un] := by
    have h6 : gLenN [itsP (l.filter isBox)] = some (.int ((l.filter isBox).length : Nat)) := by simp [itsP, h5]
    have h7 : (0 : Int) < ((l.filter isBox).length : Nat) := by omega
    generalize (l.filter isBox).length = n at h6 h7
    simp [h2, h6, -ap_dLc]
    omega
  rw [S3]
  rfl
theorem F_check_items_ok {l : List Item} (g : Good l) : F_check_items [itsP l] = .ok .non .non := by
  refine run_nx (env := [.sh (itsP l)]) (ρ := [.sh (itsP l)]) ?_
  simp [den_check_items, F_is_items_ok g, tr_bl]
def wsP (ws : List Nat) : PV := .lst (ws.map fun w : Nat => PV.int (w : Nat))
theorem F_check_paragraph_ok {l : List Item} (g : Good l) {ws : List Nat} (h0 : ws ≠ []) (h1 : ∀ w ∈ ws, 1 ≤ w) (hw : ws.length ≤ 10) : F_check_paragraph [itsP l, wsP ws] = .ok .non .non := by
  have L := dLc_okF (T := T_check_paragraph_1) (E := E_check_paragraph_1) (i := 2) (di := iSeq (dVar 1)) (ρ := [.sh (itsP l), .sh (wsP ws), .un]) (fun w : Nat => PV.int (w : Nat)) (fun w : Nat => PV.int (w : Nat)) (fun _ => false) ws (by simp [wsP]) rfl (by omega)
    (fun c hc => by have := h1 c hc; simp [T_check_paragraph_1, Sl.lock, show ¬ (c : Int) < 1 by omega]) (fun c hc e => nomatch e)
  have e : List.filter (fun _ : Nat => false) ws = [] := by simp
  rw [e] at L
  have L : dLc [2] (iSeq (dVar 1)) (gName 2) T_check_paragraph_1 E_check_paragraph_1 [.sh (itsP l), .sh (wsP ws), .un] = .ok (.lst []) [.sh (itsP l), .sh (wsP ws), .un] := L
  have t1 : truth (wsP ws) = some true := by cases ws with
    | nil => exact absurd rfl h0
    | cons w r => rfl
  have h5 : gLenN [itsP l] = some (.int (l.length : Nat)) := by simp [itsP, show l.length ≤ sizeLine from szn (by have := g.len; omega)]
  have h6 : ¬ (400 : Int) < (l.length : Nat) := by have := g.len; omega
  refine run_nx (env := [.sh (itsP l), .sh (wsP ws), .un]) (ρ := [.sh (itsP l), .sh (wsP ws), .un]) ?_
  generalize l.length = n at h5 h6
  simp [den_check_paragraph, F_check_items_ok g, L, t1, h5, h6, c_MOST_ITEMS, show truth (.lst []) = some false from rfl, -ap_dLc]
theorem cut_one (x : PV) (l : List PV) : cutP (x :: l) (some 1) none = l := by
  unfold cutP HT.sIx
  simp
/-- the items from the first box on -/
def strip : List Item → List Item
  | [] => []
  | i :: l => if isBox i then i :: l else strip l
theorem while_strip (a b c d : Sl) : ∀ (l : List Item) (n : Nat), l.length < n → ∃ s, dWhile (bAnd (bTruV 3) (bVal (d2 gNe (d2 gIx (d2 gIx (dVar 3) (dC (.int 0))) (dC (.int 0))) (dC (.str ("box" : Str)))))) B_line_between_2 n [a, b, c, .sh (itsP l), d] = .nx [a, b, c, .sh (itsP (strip l)), s] ∧ s = d
  | [], n + 1, h => ⟨d, by simp [dWhile, itsP, strip, show truth (.lst []) = some false from rfl], rfl⟩
  | i :: l, n + 1, h => by
    have t1 : truth (itsP (i :: l)) = some true := rfl
    have e1 : gIx (itsP (i :: l)) (.int 0) = some (itP i) := ix_items (i :: l) 0 (by simp)
    cases hb : isBox i with
    | true =>
      refine ⟨d, ?_, rfl⟩
      simp [dWhile, t1, e1, ix0, kn_box, hb, strip]
    | false =>
      obtain ⟨s, h1, h2⟩ := while_strip a b c d l n (by simpa using h)
      refine ⟨s, ?_, h2⟩
      have S : B_line_between_2 [a, b, c, .sh (itsP (i :: l)), d] = .nx [a, b, c, .sh (itsP l), d] := by
        simp [B_line_between_2, itsP]
        exact cut_one _ _
      unfold dWhile
      simp [t1, e1, ix0, kn_box, hb, S, strip, h1]
theorem cut_seg {α : Type} (ps : List α) {s e : Nat} (h1 : s ≤ ps.length) (h2 : e ≤ ps.length) : cutP ps (some (s : Int)) (some (e : Int)) = (ps.drop s).take (e - s) := by
  unfold cutP HT.sIx
  have a1 : ¬ (s : Int) < 0 := by omega
  have a2 : ¬ (e : Int) < 0 := by omega
  simp [a1, a2, Nat.min_eq_left h1, Nat.min_eq_left h2]
def seg (l : List Item) (s e : Nat) : List Item := (l.drop s).take (e - s)
/-- the line from s on (the break before it is s - 1) to the break e -/
def lineOf (l : List Item) (s e : Nat) : Option (List Item) :=
  if (List.range' s (e - s)).any (frc l) then none else if (strip (seg l s e)).isEmpty then none else some (strip (seg l s e))

theorem F_forced_lc (l : List Item) {s e : Nat} (hs : s ≤ e) (he : e ≤ l.length) (hl : l.length ≤ 400) (a x : Sl) : dLc [4] (iR2 (dCons (dAdd (dVar 1) (dC (.int 1))) (dCons (dVar 2) dNil))) (gName 4) T_line_between_1 E_line_between_1 [.sh (itsP l), .sh (.int ((s : Int) - 1)), .sh (.int (e : Int)), .sh (itsP (seg l s e)), .un] = .ok (nP ((List.range' s (e - s)).filter (frc l))) [.sh (itsP l), .sh (.int ((s : Int) - 1)), .sh (.int (e : Int)), .sh (itsP (seg l s e)), .un] :=
  dLc_okF (fun i : Nat => PV.int (i : Nat)) (fun i : Nat => PV.int (i : Nat)) (frc l) (List.range' s (e - s)) (by
      have e1 : ((e : Int) - (s : Int)).toNat = e - s := by omega
      simp [rg2_ok (ρ := [.sh (itsP l), .sh (.int ((s : Int) - 1)), .sh (.int (e : Int)), .sh (itsP (seg l s e)), .un]) (show (-1000000000 : Int) ≤ s by omega) (show (s : Int) ≤ 1000000000 by omega) (show (-1000000000 : Int) ≤ e by omega) (show (e : Int) ≤ 1000000000 by omega), e1, range_from]) rfl (by simp; omega)
    (fun c hc => by
      have h1 : c < l.length := by
        have := List.mem_range'_1.mp hc
        omega
      simp [T_line_between_1, Sl.lock, F_is_forced_ok l c h1, tr_bl]) (fun c hc _ => by simp [E_line_between_1, Sl.lock])
def optP : Option (List Item) → PV
  | none => .non
  | some l => itsP l
theorem F_line_between_ok (l : List Item) {s e : Nat} (hs : s ≤ e) (he : e ≤ l.length) (hl : l.length ≤ 400) : F_line_between [itsP l, .int ((s : Int) - 1), .int (e : Int)] = .ok (optP (lineOf l s e)) .non := by
  have L := F_forced_lc l hs he hl .un .un
  have S1 : sSet 3 (dN gListOf (dCons (dSl gSl (dVar 0) (oSome (dAdd (dVar 1) (dC (.int 1)))) (oSome (dVar 2))) dNil)) [.sh (itsP l), .sh (.int ((s : Int) - 1)), .sh (.int (e : Int)), .un, .un] = .nx [.sh (itsP l), .sh (.int ((s : Int) - 1)), .sh (.int (e : Int)), .sh (itsP (seg l s e)), .un] := by
    have c := cut_seg (l.map itP) (s := s) (e := e) (by simpa using Nat.le_trans hs he) (by simpa using he)
    simp [itsP, c, seg, List.map_take, List.map_drop]
  by_cases hf : (List.range' s (e - s)).any (frc l) = true
  · refine run_rt (env := [.sh (itsP l), .sh (.int ((s : Int) - 1)), .sh (.int (e : Int)), .un, .un]) (ρ := [.sh (itsP l), .sh (.int ((s : Int) - 1)), .sh (.int (e : Int)), .sh (itsP (seg l s e)), .un]) ?_
    unfold den_line_between lineOf
    rw [seq_nx S1, if_pos hf]
    have t1 : truth (nP ((List.range' s (e - s)).filter (frc l))) = some true := by
      obtain ⟨i, h1, h2⟩ := List.any_eq_true.mp hf
      have : i ∈ (List.range' s (e - s)).filter (frc l) := List.mem_filter.mpr ⟨h1, h2⟩
      cases hh : (List.range' s (e - s)).filter (frc l) with
      | nil => rw [hh] at this; cases this
      | cons x r => rfl
    simp [L, t1, optP, -ap_dLc]
  · have t1 : truth (nP ((List.range' s (e - s)).filter (frc l))) = some false := by
      have : (List.range' s (e - s)).filter (frc l) = [] := List.filter_eq_nil_iff.mpr fun i hi hz => hf (List.any_eq_true.mpr ⟨i, hi, hz⟩)
      rw [this]; rfl
    obtain ⟨x, hw, rfl⟩ := while_strip (.sh (itsP l)) (.sh (.int ((s : Int) - 1))) (.sh (.int (e : Int))) .un (seg l s e) ((seg l s e).length + 2) (by omega)
    refine run_rt (env := [.sh (itsP l), .sh (.int ((s : Int) - 1)), .sh (.int (e : Int)), .un, .un]) (ρ := [.sh (itsP l), .sh (.int ((s : Int) - 1)), .sh (.int (e : Int)), .sh (itsP (strip (seg l s e))), .un]) ?_
    unfold den_line_between lineOf
    rw [seq_nx S1, if_neg hf]
    have S2 : sIf (bTru (dLc [4] (iR2 (dCons (dAdd (dVar 1) (dC (.int 1))) (dCons (dVar 2) dNil))) (gName 4) T_line_between_1 E_line_between_1)) (sRet (dC .non)) sNx [.sh (itsP l), .sh (.int ((s : Int) - 1)), .sh (.int (e : Int)), .sh (itsP (seg l s e)), .un] = .nx [.sh (itsP l), .sh (.int ((s : Int) - 1)), .sh (.int (e : Int)), .sh (itsP (seg l s e)), .un] := by
      simp [L, t1, -ap_dLc]
    have S3 : sWhile (muLen 3) (bAnd (bTruV 3) (bVal (d2 gNe (d2 gIx (d2 gIx (dVar 3) (dC (.int 0))) (dC (.int 0))) (dC (.str ("box" : Str)))))) B_line_between_2 [.sh (itsP l), .sh (.int ((s : Int) - 1)), .sh (.int (e : Int)), .sh (itsP (seg l s e)), .un] = .nx [.sh (itsP l), .sh (.int ((s : Int) - 1)), .sh (.int (e : Int)), .sh (itsP (strip (seg l s e))), .un] := by
      have em : muLen 3 [.sh (itsP l), .sh (.int ((s : Int) - 1)), .sh (.int (e : Int)), .sh (itsP (seg l s e)), .un] = (seg l s e).length + 2 := by simp [muLen, itsP]
      unfold sWhile
      rw [em, hw]
    rw [seq_nx S2, seq_nx S3]
    cases hq : strip (seg l s e) with
    | nil => simp [optP, itsP, show truth (.lst []) = some false from rfl]
    | cons y r => simp [optP, itsP, show ∀ p ps, truth (.lst (p :: ps)) = some true from fun _ _ => rfl]
end PL.K95

set_option Elab.async false
set_option linter.all false
set_option maxRecDepth 100000
set_option maxHeartbeats 4000000
namespace PL.K95
open PySem PySem.Spec L2 PL
set_option autoImplicit false
/-! ### lists of ends, and their costs -/
section
variable (w : Nat → Nat → Int) (n : Nat) (H : Int)
def stp1 (s e : Nat) : Prop := s < e ∧ e ≤ n ∧ w s e ≤ H
def Chn : Nat → Nat → List Nat → Prop
  | s, t, [] => s = t
  | s, t, e :: r => stp1 w n H s e ∧ Chn e t r
def cst (s e : Nat) : Int := if e = n then 0 else (H - w s e) * (H - w s e)
def cost : Nat → List Nat → Int
  | _, [] => 0
  | s, e :: r => cst w n H s e + cost e r
variable {w n H}
theorem chn_snoc {e : Nat} : ∀ (r : List Nat) (s u : Nat), Chn w n H s u r → stp1 w n H u e → Chn w n H s e (r ++ [e])
  | [], s, u, h, h1 => by cases h; exact ⟨h1, rfl⟩
  | x :: r, s, u, h, h1 => ⟨h.1, chn_snoc r x u h.2 h1⟩
theorem chn_unsnoc {e t : Nat} : ∀ (r : List Nat) (s : Nat), Chn w n H s t (r ++ [e]) → ∃ u, Chn w n H s u r ∧ stp1 w n H u e ∧ t = e
  | [], s, h => ⟨s, rfl, h.1, h.2.symm⟩
  | x :: r, s, h => by
    obtain ⟨u, h1, h2, h3⟩ := chn_unsnoc r x h.2
    exact ⟨u, ⟨h.1, h1⟩, h2, h3⟩
theorem cost_snoc {e : Nat} : ∀ (r : List Nat) (s u : Nat), Chn w n H s u r → cost w n H s (r ++ [e]) = cost w n H s r + cst w n H u e
  | [], s, u, h => by cases h; simp [cost]
  | x :: r, s, u, h => by
    simp only [List.cons_append, cost, cost_snoc r x u h.2]
    omega
theorem chn_le : ∀ (r : List Nat) (s t : Nat), Chn w n H s t r → s + r.length ≤ t ∧ (s ≤ n → t ≤ n)
  | [], s, t, h => by cases h; simp
  | x :: r, s, t, h => by
    obtain ⟨h1, h2⟩ := chn_le r x t h.2
    have := h.1.1
    have h3 := h.1.2.1
    refine ⟨by simp only [List.length_cons]; omega, fun _ => h2 h3⟩
theorem cst_nn (s e : Nat) : 0 ≤ cst w n H s e := by
  unfold cst
  split
  · omega
  · rcases Int.le_total 0 (H - w s e) with h | h
    · exact Int.mul_nonneg h h
    · exact Int.mul_nonneg_of_nonpos_of_nonpos h h
end
/-! ### the order -/
def lel : List Nat → List Nat → Prop
  | [], _ => True
  | _ :: _, [] => False
  | a :: l, b :: m => a < b ∨ (a = b ∧ lel l m)
def Le (a b : Int × List Nat) : Prop := a.1 < b.1 ∨ (a.1 = b.1 ∧ lel a.2 b.2)
theorem lel_refl : ∀ l : List Nat, lel l l
  | [] => trivial
  | _ :: l => .inr ⟨rfl, lel_refl l⟩
theorem lel_total : ∀ a b : List Nat, lel a b ∨ lel b a
  | [], b => .inl (by cases b <;> trivial)
  | a :: l, [] => .inr trivial
  | a :: l, b :: m => by
    rcases Nat.lt_trichotomy a b with h | h | h
    · exact .inl (.inl h)
    · rcases lel_total l m with h1 | h1
      · exact .inl (.inr ⟨h, h1⟩)
      · exact .inr (.inr ⟨h.symm, h1⟩)
    · exact .inr (.inl h)
theorem lel_trans : ∀ {a b c : List Nat}, lel a b → lel b c → lel a c
  | [], b, c, _, _ => by cases c <;> trivial
  | a :: l, [], c, h, _ => h.elim
  | a :: l, b :: m, [], _, h => h.elim
  | a :: l, b :: m, c :: k, h1, h2 => by
    rcases h1 with h1 | ⟨e1, h1⟩
    · rcases h2 with h2 | ⟨e2, h2⟩
      · exact .inl (by omega)
      · exact .inl (by omega)
    · rcases h2 with h2 | ⟨e2, h2⟩
      · exact .inl (by omega)
      · exact .inr ⟨by omega, lel_trans h1 h2⟩
theorem lel_anti : ∀ {a b : List Nat}, lel a b → lel b a → a = b
  | [], [], _, _ => rfl
  | [], _ :: _, _, h => h.elim
  | _ :: _, [], h, _ => h.elim
  | a :: l, b :: m, h1, h2 => by
    rcases h1 with h1 | ⟨e1, h1⟩
    · rcases h2 with h2 | ⟨e2, h2⟩ <;> omega
    · rcases h2 with h2 | ⟨e2, h2⟩
      · omega
      · rw [e1, lel_anti h1 h2]
theorem lel_snoc {e : Nat} : ∀ {a b : List Nat}, a.length = b.length → lel a b → lel (a ++ [e]) (b ++ [e])
  | [], [], _, _ => lel_refl _
  | [], _ :: _, h, _ => by cases h
  | _ :: _, [], h, _ => by cases h
  | a :: l, b :: m, h, h1 => by
    rcases h1 with h1 | ⟨e1, h1⟩
    · exact .inl h1
    · exact .inr ⟨e1, lel_snoc (by simpa using h) h1⟩
theorem Le.rfl' (a : Int × List Nat) : Le a a := .inr ⟨rfl, lel_refl _⟩
theorem Le.total (a b : Int × List Nat) : Le a b ∨ Le b a := by
  rcases Int.lt_trichotomy a.1 b.1 with h | h | h
  · exact .inl (.inl h)
  · rcases lel_total a.2 b.2 with h1 | h1
    · exact .inl (.inr ⟨h, h1⟩)
    · exact .inr (.inr ⟨h.symm, h1⟩)
  · exact .inr (.inl h)
theorem Le.trans {a b c : Int × List Nat} (h1 : Le a b) (h2 : Le b c) : Le a c := by
  rcases h1 with h1 | ⟨e1, h1⟩
  · rcases h2 with h2 | ⟨e2, h2⟩ <;> exact .inl (by omega)
  · rcases h2 with h2 | ⟨e2, h2⟩
    · exact .inl (by omega)
    · exact .inr ⟨by omega, lel_trans h1 h2⟩
theorem Le.anti {a b : Int × List Nat} (h1 : Le a b) (h2 : Le b a) : a = b := by
  rcases h1 with h1 | ⟨e1, h1⟩
  · rcases h2 with h2 | ⟨e2, h2⟩ <;> omega
  · rcases h2 with h2 | ⟨e2, h2⟩
    · omega
    · exact Prod.ext e1 (lel_anti h1 h2)
theorem Le.snoc {a b : Int × List Nat} {c : Int} {e : Nat} (hl : a.2.length = b.2.length) (h : Le a b) : Le (a.1 + c, a.2 ++ [e]) (b.1 + c, b.2 ++ [e]) := by
  rcases h with h | ⟨h1, h⟩
  · exact .inl (by show a.1 + c < b.1 + c; omega)
  · exact .inr ⟨by show a.1 + c = b.1 + c; omega, lel_snoc hl h⟩
/-- an order that a program computes -/
theorem Le.not {a b : Int × List Nat} (h : ¬ Le a b) : Le b a := (Le.total a b).resolve_left h
/-! ### taking the last that fits -/
section
variable (w : Nat → Nat → Int) (n : Nat) (H : Int)
def able (s : Nat) : List Nat := (List.range' (s + 1) (n - s)).filter fun e => decide (w s e ≤ H)
def grd : Nat → Nat → Option (List Nat)
  | 0, _ => some []
  | f + 1, s => if n ≤ s then some [] else match (able w n H s).getLast? with
    | none => none
    | some e => (grd f e).map fun r => e :: r
variable {w n H}
theorem mem_able {s e : Nat} : e ∈ able w n H s ↔ stp1 w n H s e := by
  unfold able stp1
  rw [List.mem_filter, List.mem_range'_1, decide_eq_true_eq]
  constructor
  · rintro ⟨⟨h1, h2⟩, h3⟩
    exact ⟨by omega, by omega, h3⟩
  · rintro ⟨h1, h2, h3⟩
    exact ⟨⟨by omega, by omega⟩, h3⟩
theorem able_asc (s : Nat) : (able w n H s).Pairwise (· < ·) := (List.pairwise_lt_range').filter _
theorem last_max : ∀ {l : List Nat} {e : Nat}, l.Pairwise (· < ·) → l.getLast? = some e → e ∈ l ∧ ∀ x ∈ l, x ≤ e := by
  intro l e hp h
  have hne : l ≠ [] := fun z => by rw [z] at h; cases h
  have e1 : l = l.dropLast ++ [e] := by
    have := List.dropLast_concat_getLast hne
    rw [List.getLast?_eq_some_getLast hne] at h
    cases h
    exact this.symm
  rw [e1] at hp ⊢
  refine ⟨by simp, fun x hx => ?_⟩
  rcases List.mem_append.mp hx with hx | hx
  · have := (List.pairwise_append.mp hp).2.2 x hx e (by simp)
    omega
  · simp at hx; omega
theorem able_last {s e : Nat} (h : (able w n H s).getLast? = some e) : stp1 w n H s e ∧ ∀ x, stp1 w n H s x → x ≤ e := by
  obtain ⟨h1, h2⟩ := last_max (able_asc s) h
  exact ⟨mem_able.mp h1, fun x hx => h2 x (mem_able.mpr hx)⟩
theorem able_none {s : Nat} (h : (able w n H s).getLast? = none) (x : Nat) : ¬ stp1 w n H s x := fun hx => by
  have := mem_able.mpr hx
  rw [List.getLast?_eq_none_iff] at h
  rw [h] at this
  cases this
theorem grd_chn : ∀ (f s : Nat) (r : List Nat), n - s ≤ f → s ≤ n → grd w n H f s = some r → Chn w n H s n r
  | 0, s, r, h1, h2, h => by
    cases h
    show s = n
    omega
  | f + 1, s, r, h1, h2, h => by
    unfold grd at h
    by_cases hs : n ≤ s
    · rw [if_pos hs] at h
      cases h
      show s = n
      omega
    · rw [if_neg hs] at h
      cases ha : (able w n H s).getLast? with
      | none => simp only [ha] at h; cases h
      | some e =>
        simp only [ha] at h
        obtain ⟨k1, k2⟩ := able_last ha
        cases hg : grd w n H f e with
        | none => rw [hg] at h; cases h
        | some r' =>
          rw [hg] at h
          cases h
          have := k1.1
          exact ⟨k1, grd_chn f e r' (by omega) k1.2.1 hg⟩
theorem grd_short (anti : ∀ s s' e, s ≤ s' → s' < e → e ≤ n → w s' e ≤ w s e) : ∀ (r' : List Nat) (s s' f : Nat), s ≤ s' → s' ≤ n → n - s' ≤ f → Chn w n H s n r' → ∃ r, grd w n H f s' = some r ∧ r.length ≤ r'.length
  | r', s, s', 0, h1, h2, h3, h => ⟨[], rfl, by simp⟩
  | [], s, s', f + 1, h1, h2, h3, h => by
    have h : s = n := h
    refine ⟨[], ?_, by simp⟩
    unfold grd
    rw [if_pos (by omega)]
  | e :: r', s, s', f + 1, h1, h2, h3, h => by
    obtain ⟨⟨k1, k2, k3⟩, h⟩ := h
    by_cases he : e ≤ s'
    · obtain ⟨r, a, b⟩ := grd_short anti r' e s' (f + 1) he h2 h3 h
      exact ⟨r, a, by simp only [List.length_cons]; omega⟩
    · have hst : stp1 w n H s' e := ⟨by omega, k2, by have := anti s s' e h1 (by omega) k2; omega⟩
      unfold grd
      rw [if_neg (by omega)]
      cases ha : (able w n H s').getLast? with
      | none => exact (able_none ha e hst).elim
      | some e' =>
        obtain ⟨m1, m2⟩ := able_last ha
        have := m2 e hst
        have m3 := m1.1
        have m4 := m1.2.1
        obtain ⟨r, a, b⟩ := grd_short anti r' e e' f this m4 (by omega) h
        exact ⟨e' :: r, by simp only [a]; rfl, by simp only [List.length_cons]; omega⟩
end
/-! ### what the widths are -/
structure Wid (w : Nat → Nat → Int) (h : Nat → Int) (n : Nat) : Prop where
  anti : ∀ s s' e, s ≤ s' → s' < e → e ≤ n → w s' e ≤ w s e
  cov : ∀ u i e, u ≤ i → i < e → e ≤ n → h i ≤ w u e
  one : ∀ s, s < n → w s (s + 1) = h s
section
variable {w : Nat → Nat → Int} {h : Nat → Int} {n : Nat} {H : Int}
theorem chn_cov (W : Wid w h n) : ∀ (r : List Nat) (s : Nat), Chn w n H s n r → ∀ i, s ≤ i → i < n → h i ≤ H
  | [], s, c, i, h1, h2 => by have c : s = n := c; omega
  | e :: r, s, c, i, h1, h2 => by
    obtain ⟨⟨k1, k2, k3⟩, c⟩ := c
    by_cases hi : i < e
    · have := W.cov s i e h1 hi k2
      omega
    · exact chn_cov W r e c i (by omega) h2
theorem chn_all (W : Wid w h n) (hh : ∀ i, i < n → h i ≤ H) : ∀ (k s : Nat), s + k = n → ∃ r, Chn w n H s n r
  | 0, s, e => ⟨[], by show s = n; omega⟩
  | k + 1, s, e => by
    obtain ⟨r, hr⟩ := chn_all W hh k (s + 1) (by omega)
    refine ⟨(s + 1) :: r, ⟨by omega, by omega, ?_⟩, hr⟩
    rw [W.one s (by omega)]
    exact hh s (by omega)
/-- the widest line of a list -/
theorem chn_widest (hn : 0 < n) : ∀ (r : List Nat) (s : Nat), s < n → Chn w n H s n r → ∃ M u e, u < e ∧ e ≤ n ∧ M = w u e ∧ M ≤ H ∧ Chn w n M s n r
  | [], s, hs, c => by have c : s = n := c; omega
  | e :: r, s, hs, c => by
    obtain ⟨⟨k1, k2, k3⟩, c⟩ := c
    by_cases he : e = n
    · cases r with
      | nil => exact ⟨w s e, s, e, k1, k2, rfl, k3, ⟨k1, k2, Int.le_refl _⟩, he⟩
      | cons x r =>
        have := c.1.1
        have := c.1.2.1
        omega
    · obtain ⟨M, u, e', m1, m2, m3, m4, m5⟩ := chn_widest hn r e (by omega) c
      have up : ∀ {M M' : Int} (r : List Nat) (s t : Nat), M ≤ M' → Chn w n M s t r → Chn w n M' s t r := by
        intro M M' r
        induction r with
        | nil => intro s t _ h; exact h
        | cons x r ih => intro s t hM h; exact ⟨⟨h.1.1, h.1.2.1, by have := h.1.2.2; omega⟩, ih x t hM h.2⟩
      rcases Int.le_total M (w s e) with hm | hm
      · exact ⟨w s e, s, e, k1, k2, rfl, k3, ⟨k1, k2, Int.le_refl _⟩, up r e n hm m5⟩
      · exact ⟨M, u, e', m1, m2, m3, m4, ⟨k1, k2, hm⟩, m5⟩
end
end PL.K95

set_option Elab.async false
set_option linter.all false
set_option maxRecDepth 100000
set_option maxHeartbeats 4000000
namespace PL.K95
open PySem PySem.Spec L2 PL
set_option autoImplicit false
/-! ### sums -/
def wd : Item → Nat
  | .box w _ => w
  | .glue w _ _ => w
  | .pen w _ _ => w
def stI : Item → Nat
  | .glue _ a _ => a
  | _ => 0
def shI : Item → Nat
  | .glue _ _ b => b
  | _ => 0
theorem px1 (i : Item) : gIx (itP i) (.int 1) = some (.int (wd i : Nat)) := by cases i <;> rfl
theorem px2g (i : Item) (h : isGlue i = true) : gIx (itP i) (.int 2) = some (.int (stI i : Nat)) := by cases i <;> first | rfl | cases h
theorem px3g (i : Item) (h : isGlue i = true) : gIx (itP i) (.int 3) = some (.int (shI i : Nat)) := by cases i <;> first | rfl | cases h
def natS (m : List Item) : Int := ((m.filter fun i => !isPen i).map fun i => (wd i : Int)).sum
def extW (l : List Item) (e : Nat) : Int := match l[e]? with
  | some (.pen w _ _) => (w : Int)
  | _ => 0
def strS (m : List Item) : Int := ((m.filter isGlue).map fun i => (stI i : Int)).sum
def shrS (m : List Item) : Int := ((m.filter isGlue).map fun i => (shI i : Int)).sum

theorem F_sums_of_ok (l m : List Item) {e : Nat} (he : e < l.length) (hm : m.length ≤ 400) : F_sums_of [itsP l, itsP m, .int (e : Int)] = .ok (.tup [.int (natS m + extW l e), .int (strS m), .int (shrS m)]) .non := by
  have e0 := ix_items l e he
  have L1 : dLc [5] (iSeq (dVar 1)) (gName 5) T_sums_of_1 E_sums_of_1 [.sh (itsP l), .sh (itsP m), .sh (.int (e : Int)), .un, .un, .un] = .ok (.lst ((m.filter fun i => !isPen i).map fun i => .int (wd i : Int))) [.sh (itsP l), .sh (itsP m), .sh (.int (e : Int)), .un, .un, .un] :=
    dLc_okF itP (fun i => .int (wd i : Int)) (fun i => !isPen i) m (by simp [itsP]) rfl (by omega)
      (fun c _ => by simp [T_sums_of_1, Sl.lock, ix0, kn_pen]) (fun c _ _ => by simp [E_sums_of_1, Sl.lock, px1])
  have S1 : sSet 3 (dN gSumN (dCons (dLc [5] (iSeq (dVar 1)) (gName 5) T_sums_of_1 E_sums_of_1) dNil)) [.sh (itsP l), .sh (itsP m), .sh (.int (e : Int)), .un, .un, .un] = .nx [.sh (itsP l), .sh (itsP m), .sh (.int (e : Int)), .sh (.int (natS m)), .un, .un] := by
    simp [L1, sum_mapF, natS, -ap_dLc]
  have S2 : sIf (bVal (d2 gEq (d2 gIx (d2 gIx (dVar 0) (dVar 2)) (dC (.int 0))) (dC (.str ("penalty" : Str))))) (sAug 3 gAugAdd (d2 gIx (d2 gIx (dVar 0) (dVar 2)) (dC (.int 1)))) sNx [.sh (itsP l), .sh (itsP m), .sh (.int (e : Int)), .sh (.int (natS m)), .un, .un] = .nx [.sh (itsP l), .sh (itsP m), .sh (.int (e : Int)), .sh (.int (natS m + extW l e)), .un, .un] := by
    unfold extW
    rw [List.getElem?_eq_getElem he]
    cases hx : l[e] with
    | box w t => rw [hx] at e0; simp [e0, ix0, kd_pen, isPen]
    | glue w a b => rw [hx] at e0; simp [e0, ix0, kd_pen, isPen]
    | pen w c f => rw [hx] at e0; simp [e0, ix0, kd_pen, isPen, px1, wd]
  generalize natS m + extW l e = N at S2
  have L2 : dLc [5] (iSeq (dVar 1)) (gName 5) T_sums_of_2 E_sums_of_2 [.sh (itsP l), .sh (itsP m), .sh (.int (e : Int)), .sh (.int N), .un, .un] = .ok (itsP (m.filter isGlue)) [.sh (itsP l), .sh (itsP m), .sh (.int (e : Int)), .sh (.int N), .un, .un] :=
    dLc_okF itP itP isGlue m (by simp [itsP]) rfl (by omega)
      (fun c _ => by simp [T_sums_of_2, Sl.lock, ix0, kd_glue]) (fun c _ _ => by simp [E_sums_of_2, Sl.lock])
  have hg : (m.filter isGlue).length ≤ 1000000 := by have := List.length_filter_le isGlue m; omega
  have hG : ∀ c ∈ m.filter isGlue, isGlue c = true := fun c hc => (List.mem_filter.mp hc).2
  have L3 : dLc [5] (iSeq (dVar 4)) (gName 5) bYes E_sums_of_3 [.sh (itsP l), .sh (itsP m), .sh (.int (e : Int)), .sh (.int N), .sh (itsP (m.filter isGlue)), .un] = .ok (.lst ((m.filter isGlue).map fun i => .int (shI i : Int))) [.sh (itsP l), .sh (itsP m), .sh (.int (e : Int)), .sh (.int N), .sh (itsP (m.filter isGlue)), .un] :=
    dLc_ok itP (fun i => .int (shI i : Int)) (m.filter isGlue) (by simp [itsP]) rfl hg
      (fun c hc => by simp [E_sums_of_3, Sl.lock, px3g c (hG c hc)])
  have L4 : dLc [5] (iSeq (dVar 4)) (gName 5) bYes E_sums_of_4 [.sh (itsP l), .sh (itsP m), .sh (.int (e : Int)), .sh (.int N), .sh (itsP (m.filter isGlue)), .un] = .ok (.lst ((m.filter isGlue).map fun i => .int (stI i : Int))) [.sh (itsP l), .sh (itsP m), .sh (.int (e : Int)), .sh (.int N), .sh (itsP (m.filter isGlue)), .un] :=
    dLc_ok itP (fun i => .int (stI i : Int)) (m.filter isGlue) (by simp [itsP]) rfl hg
      (fun c hc => by simp [E_sums_of_4, Sl.lock, px2g c (hG c hc)])
  refine run_rt (env := [.sh (itsP l), .sh (itsP m), .sh (.int (e : Int)), .un, .un, .un]) (ρ := [.sh (itsP l), .sh (itsP m), .sh (.int (e : Int)), .sh (.int N), .sh (itsP (m.filter isGlue)), .un]) ?_
  unfold den_sums_of
  rw [seq_nx S1, seq_nx S2, seq_nx (ρ1 := [.sh (itsP l), .sh (itsP m), .sh (.int (e : Int)), .sh (.int N), .sh (itsP (m.filter isGlue)), .un]) (by simp [L2, -ap_dLc])]
  simp [L3, L4, sum_mapF, strS, shrS, szn (show 3 ≤ 1000000 by omega), -ap_dLc]
theorem strip_len : ∀ l : List Item, (strip l).length ≤ l.length
  | [] => Nat.le_refl _
  | i :: l => by
    have := strip_len l
    unfold strip
    split
    · exact Nat.le_refl _
    · simp; omega
theorem seg_len (l : List Item) (s e : Nat) : (seg l s e).length ≤ l.length := by
  unfold seg
  rw [List.length_take, List.length_drop]
  omega
def optI : Option Int → PV
  | none => .non
  | some i => .int i
abbrev Rw := Nat × Nat
def rowP (r : Rw) : PV := .tup [.int r.1, .int r.2, .int 0, .tup []]
def rowsP (rs : List Rw) : PV := .lst (rs.map rowP)
structure Rok (rs : List Rw) : Prop where
  ne : 0 < rs.length
  len : rs.length ≤ 8
  h1 : ∀ r ∈ rs, 1 ≤ r.1
  h2 : ∀ r ∈ rs, r.1 ≤ 6
  g : ∀ r ∈ rs, r.2 ≤ 3
def body : List Rw → List Item
  | [] => []
  | r :: rs => .glue r.2 0 0 :: .box r.1 "x" :: body rs
def its (rs : List Rw) : List Item := (body rs).tail ++ [.pen 0 (-10000) false]
theorem body_len : ∀ rs : List Rw, (body rs).length = 2 * rs.length
  | [] => rfl
  | r :: rs => by simp only [body, List.length_cons, body_len rs]; omega
theorem body_app : ∀ a b : List Rw, body (a ++ b) = body a ++ body b
  | [], b => rfl
  | r :: a, b => by simp only [List.cons_append, body, body_app a b]
theorem body_drop : ∀ (s : Nat) (rs : List Rw), (body rs).drop (2 * s) = body (rs.drop s)
  | 0, rs => rfl
  | s + 1, [] => by simp [body]
  | s + 1, r :: rs => by
    rw [show 2 * (s + 1) = 2 * s + 1 + 1 by omega]
    simp only [body, List.drop_succ_cons]
    exact body_drop s rs
theorem body_take : ∀ (s : Nat) (rs : List Rw), (body rs).take (2 * s) = body (rs.take s)
  | 0, rs => rfl
  | s + 1, [] => by simp [body]
  | s + 1, r :: rs => by
    rw [show 2 * (s + 1) = 2 * s + 1 + 1 by omega]
    simp only [body, List.take_succ_cons]
    rw [body_take s rs]
theorem body_even : ∀ (k : Nat) (rs : List Rw) (h : k < rs.length), (body rs)[2 * k]? = some (.glue rs[k].2 0 0)
  | 0, r :: rs, h => rfl
  | k + 1, r :: rs, h => by
    rw [show 2 * (k + 1) = 2 * k + 1 + 1 by omega]
    simp only [body, List.getElem?_cons_succ, List.getElem_cons_succ]
    exact body_even k rs (by simpa using h)
theorem body_odd : ∀ (k : Nat) (rs : List Rw) (h : k < rs.length), (body rs)[2 * k + 1]? = some (.box rs[k].1 "x")
  | 0, r :: rs, h => rfl
  | k + 1, r :: rs, h => by
    rw [show 2 * (k + 1) + 1 = 2 * k + 1 + 1 + 1 by omega]
    simp only [body, List.getElem?_cons_succ, List.getElem_cons_succ]
    exact body_odd k rs (by simpa using h)
theorem its_len {rs : List Rw} (h : 0 < rs.length) : (its rs).length = 2 * rs.length := by
  unfold its
  rw [List.length_append, List.length_tail, body_len]
  simp
  omega
theorem its_get {rs : List Rw} {i : Nat} (hi : i + 1 < 2 * rs.length) : (its rs)[i]? = (body rs)[i + 1]? := by
  unfold its
  rw [List.getElem?_append_left (by rw [List.length_tail, body_len]; omega), List.getElem?_tail]
theorem its_box {rs : List Rw} {k : Nat} (h : k < rs.length) : (its rs)[2 * k]? = some (.box rs[k].1 "x") := by
  rw [its_get (by omega), body_odd k rs h]
theorem its_glue {rs : List Rw} {k : Nat} (h : k + 1 < rs.length) : (its rs)[2 * k + 1]? = some (.glue rs[k + 1].2 0 0) := by
  rw [its_get (by omega), show 2 * k + 1 + 1 = 2 * (k + 1) by omega, body_even (k + 1) rs h]
theorem its_pen {rs : List Rw} (h : 0 < rs.length) : (its rs)[2 * rs.length - 1]? = some (.pen 0 (-10000) false) := by
  unfold its
  rw [List.getElem?_append_right (by rw [List.length_tail, body_len]; omega), List.length_tail, body_len]
  simp
theorem its_brk {rs : List Rw} {i : Nat} (h : i < 2 * rs.length) : brk (its rs) i = decide (i % 2 = 1) := by
  unfold brk
  rcases Nat.mod_two_eq_zero_or_one i with hm | hm
  · have e : i = 2 * (i / 2) := by omega
    rw [e, its_box (by omega)]
    simp
  · have e : i = 2 * (i / 2) + 1 := by omega
    by_cases hl : i / 2 + 1 < rs.length
    · have e2 : 2 * (i / 2) + 1 - 1 = 2 * (i / 2) := by omega
      rw [e, its_glue hl]
      simp only [e2, its_box (show i / 2 < rs.length by omega)]
      rw [show (2 * (i / 2) + 1) % 2 = 1 by omega]
      simp [isBox]
    · have e2 : i = 2 * rs.length - 1 := by omega
      rw [e2, its_pen (by omega)]
      have e3 : (2 * rs.length - 1) % 2 = 1 := by omega
      simp [e3]
theorem its_frc {rs : List Rw} {i : Nat} (h : i + 1 < 2 * rs.length) : frc (its rs) i = false := by
  unfold frc
  rcases Nat.mod_two_eq_zero_or_one i with hm | hm
  · have e : i = 2 * (i / 2) := by omega
    rw [e, its_box (by omega)]
  · have e : i = 2 * (i / 2) + 1 := by omega
    rw [e, its_glue (by omega)]
theorem odd_range : ∀ n : Nat, (List.range (2 * n)).filter (fun i => decide (i % 2 = 1)) = (List.range n).map fun k => 2 * k + 1
  | 0 => rfl
  | n + 1 => by
    rw [show 2 * (n + 1) = 2 * n + 1 + 1 by omega, List.range_succ, List.range_succ, List.range_succ, List.filter_append, List.filter_append, odd_range n, List.map_append]
    have e1 : (2 * n) % 2 = 0 := by omega
    have e2 : (2 * n + 1) % 2 = 1 := by omega
    simp [e1, e2]
theorem its_brks {rs : List Rw} (h : 0 < rs.length) : brks (its rs) = (List.range rs.length).map fun k => 2 * k + 1 := by
  unfold brks
  rw [its_len h, ← odd_range]
  exact List.filter_congr fun i hi => its_brk (List.mem_range.mp hi)
theorem body_mem : ∀ {rs : List Rw} {x : Item}, x ∈ body rs → ∃ r ∈ rs, x = .glue r.2 0 0 ∨ x = .box r.1 "x"
  | [], x, h => nomatch h
  | r :: rs, x, h => by
    rcases List.mem_cons.mp h with rfl | h
    · exact ⟨r, by simp, .inl rfl⟩
    rcases List.mem_cons.mp h with rfl | h
    · exact ⟨r, by simp, .inr rfl⟩
    obtain ⟨r', h1, h2⟩ := body_mem h
    exact ⟨r', by simp [h1], h2⟩
theorem its_mem {rs : List Rw} {x : Item} (h : x ∈ its rs) : (∃ r ∈ rs, x = .glue r.2 0 0 ∨ x = .box r.1 "x") ∨ x = .pen 0 (-10000) false := by
  rcases List.mem_append.mp h with h | h
  · exact .inl (body_mem (List.mem_of_mem_tail h))
  · exact .inr (by simpa using h)
theorem its_good {rs : List Rw} (h : Rok rs) : Good (its rs) := by
  refine ⟨fun i hi => ?_, ?_, ⟨_, rfl⟩, ?_, fun i hi => ?_, fun i hi => ?_⟩
  · rcases its_mem hi with ⟨r, hr, rfl | rfl⟩ | rfl
    · exact Nat.zero_le _
    · trivial
    · exact ⟨by omega, by omega⟩
  · rw [its_len h.ne]; have := h.len; omega
  · have hb := its_box (rs := rs) (k := 0) h.ne
    obtain ⟨hl, hb⟩ := List.getElem?_eq_some_iff.mp hb
    exact ⟨_, hb ▸ List.getElem_mem hl, rfl⟩
  · rcases its_mem hi with ⟨r, hr, rfl | rfl⟩ | rfl
    · have := h.g r hr; exact ⟨by omega, by omega, by omega⟩
    · have := h.h2 r hr; show r.1 ≤ 100; omega
    · show 0 ≤ 100; omega
  · rcases its_mem hi with ⟨r, hr, rfl | rfl⟩ | rfl
    · trivial
    · show PyData.canLay0 (.str "x") = true; kernel_rfl
    · trivial
/-! ### a line of the items -/
def rseg (rs : List Rw) (s e : Nat) : List Rw := (rs.drop s).take (e - s)
def gsum (rs : List Rw) : Int := (rs.map fun r => (r.1 : Int) + (r.2 : Int)).sum
def wl : List Rw → Int
  | [] => 0
  | r :: rs => (r.1 : Int) + gsum rs
def wth (rs : List Rw) (s e : Nat) : Int := wl (rseg rs s e)
theorem its_seg {rs : List Rw} {s e : Nat} (h1 : s < e) (h2 : e ≤ rs.length) : seg (its rs) (2 * s) (2 * e - 1) = (body (rseg rs s e)).tail := by
  have hd : (its rs).drop (2 * s) = (body (rs.drop s)).tail ++ [.pen 0 (-10000) false] := by
    unfold its
    rw [List.drop_append_of_le_length (by rw [List.length_tail, body_len]; omega)]
    congr 1
    rw [List.drop_tail, ← List.tail_drop, body_drop]
  unfold seg rseg
  rw [hd, List.take_append_of_le_length (by rw [List.length_tail, body_len, List.length_drop]; omega), ← body_take]
  rw [show 2 * (e - s) = (2 * e - 1 - 2 * s) + 1 by omega]
  cases body (rs.drop s) with
  | nil => simp
  | cons x l => simp
theorem rseg_len {rs : List Rw} {s e : Nat} (h2 : e ≤ rs.length) : (rseg rs s e).length = e - s := by
  unfold rseg
  rw [List.length_take, List.length_drop]
  omega
theorem strip_body (rr : List Rw) : strip (body rr).tail = (body rr).tail := by
  cases rr with
  | nil => rfl
  | cons r rr => rfl
theorem its_line {rs : List Rw} {s e : Nat} (h1 : s < e) (h2 : e ≤ rs.length) : lineOf (its rs) (2 * s) (2 * e - 1) = some (body (rseg rs s e)).tail := by
  unfold lineOf
  rw [if_neg (fun h => by
    obtain ⟨i, hi, hf⟩ := List.any_eq_true.mp h
    have := List.mem_range'_1.mp hi
    rw [its_frc (by omega)] at hf
    cases hf), its_seg h1 h2, strip_body, if_neg]
  have := rseg_len (rs := rs) (s := s) (e := e) h2
  cases hq : rseg rs s e with
  | nil => rw [hq] at this; simp at this; omega
  | cons r rr => simp [body]
theorem nat_glue (a b c : Nat) (l : List Item) : natS (.glue a b c :: l) = (a : Int) + natS l := rfl
theorem nat_box (a : Nat) (t : Str) (l : List Item) : natS (.box a t :: l) = (a : Int) + natS l := rfl
theorem gsum_cons (r : Rw) (l : List Rw) : gsum (r :: l) = (r.1 : Int) + (r.2 : Int) + gsum l := rfl
theorem nat_body : ∀ rr : List Rw, natS (body rr) = gsum rr
  | [] => rfl
  | r :: rr => by
    rw [body, nat_glue, nat_box, nat_body rr, gsum_cons]
    omega
theorem nat_line (rr : List Rw) : natS (body rr).tail = wl rr := by
  cases rr with
  | nil => rfl
  | cons r rr =>
    rw [body, List.tail_cons, nat_box, nat_body rr]
    rfl
theorem its_ext {rs : List Rw} {e : Nat} (h1 : 0 < e) (h2 : e ≤ rs.length) : extW (its rs) (2 * e - 1) = 0 := by
  unfold extW
  by_cases he : e = rs.length
  · subst he
    rw [its_pen h1]
    rfl
  · rw [show 2 * e - 1 = 2 * (e - 1) + 1 by omega, its_glue (by omega)]
def leftO (rs : List Rw) (s e : Nat) (W : Int) : Option Int := if wth rs s e ≤ W then some (W - wth rs s e) else none
theorem isN_its (n : Bool) (m : List Item) : gIsN n (itsP m) .non = some (.bl n) := by cases n <;> rfl
theorem F_left_over_ok {rs : List Rw} (h : Rok rs) {s e : Nat} (h1 : s < e) (h2 : e ≤ rs.length) (W : Int) : F_left_over [itsP (its rs), .int (2 * (s : Int) - 1), .int (2 * (e : Int) - 1), .int W] = .ok (optI (leftO rs s e W)) .non := by
  have g := its_good h
  have hl := its_len h.ne
  have hn := h.len
  have B := F_line_between_ok (its rs) (s := 2 * s) (e := 2 * e - 1) (by omega) (by omega) g.len
  rw [its_line h1 h2] at B
  have e1 : ((2 * s : Nat) : Int) - 1 = 2 * (s : Int) - 1 := by omega
  have e2 : ((2 * e - 1 : Nat) : Int) = 2 * (e : Int) - 1 := by omega
  rw [e1, e2] at B
  have hm : (body (rseg rs s e)).tail.length ≤ 400 := by
    rw [List.length_tail, body_len, rseg_len h2]; omega
  have S := F_sums_of_ok (its rs) (body (rseg rs s e)).tail (e := 2 * e - 1) (by omega) hm
  rw [its_ext (by omega) h2, nat_line, Int.add_zero, e2] at S
  have S : F_sums_of [itsP (its rs), itsP (body (rseg rs s e)).tail, .int (2 * (e : Int) - 1)] = .ok (.tup [.int (wth rs s e), .int (strS (body (rseg rs s e)).tail), .int (shrS (body (rseg rs s e)).tail)]) .non := S
  have n1 := isN_its false (body (rseg rs s e)).tail
  unfold leftO
  have B : F_line_between [itsP (its rs), .int (2 * (s : Int) - 1), .int (2 * (e : Int) - 1)] = .ok (itsP (body (rseg rs s e)).tail) .non := B
  generalize itsP (body (rseg rs s e)).tail = L at *
  generalize strS (body (rseg rs s e)).tail = x1 at *
  generalize shrS (body (rseg rs s e)).tail = x2 at *
  generalize 2 * (s : Int) - 1 = a at *
  generalize 2 * (e : Int) - 1 = b at *
  generalize wth rs s e = ww at *
  generalize itsP (its rs) = I at *
  refine run_rt (env := [.sh I, .sh (.int a), .sh (.int b), .sh (.int W), .un, .un]) (ρ := [.sh I, .sh (.int a), .sh (.int b), .sh (.int W), .sh L, .sh (.int (W - ww))]) ?_
  unfold den_left_over
  rw [seq_nx (ρ1 := [.sh I, .sh (.int a), .sh (.int b), .sh (.int W), .sh L, .un]) (by simp [B]),
    seq_nx (ρ1 := [.sh I, .sh (.int a), .sh (.int b), .sh (.int W), .sh L, .un]) (by simp [n1]),
    seq_nx (ρ1 := [.sh I, .sh (.int a), .sh (.int b), .sh (.int W), .sh L, .sh (.int (W - ww))]) (by simp [S, at0])]
  by_cases hw : ww ≤ W
  · rw [if_pos hw]
    simp [optI, hw]
  · rw [if_neg hw]
    simp [optI, hw]
end PL.K95

set_option Elab.async false
set_option linter.all false
set_option maxRecDepth 100000
set_option maxHeartbeats 4000000
namespace PL.K95
open PySem PySem.Spec L2 PL
set_option autoImplicit false
/-! ### the widths -/
theorem gsum_app : ∀ a b : List Rw, gsum (a ++ b) = gsum a + gsum b
  | [], b => by simp [gsum]
  | r :: a, b => by rw [List.cons_append, gsum_cons, gsum_cons, gsum_app a b]; omega
theorem gsum_nn : ∀ a : List Rw, 0 ≤ gsum a
  | [] => by simp [gsum]
  | r :: a => by rw [gsum_cons]; have := gsum_nn a; omega
theorem rseg_succ (rs : List Rw) {s e : Nat} (hs : s ≤ e) (h : e < rs.length) : rseg rs s (e + 1) = rseg rs s e ++ [rs[e]] := by
  unfold rseg
  have e1 : e + 1 - s = (e - s) + 1 := by omega
  rw [e1, List.take_add_one, List.getElem?_drop]
  have e2 : s + (e - s) = e := by omega
  rw [e2, List.getElem?_eq_getElem h]
  rfl
theorem rseg_cons (rs : List Rw) {s e : Nat} (hs : s < e) (h : e ≤ rs.length) : rseg rs s e = rs[s] :: rseg rs (s + 1) e := by
  unfold rseg
  rw [List.drop_eq_getElem_cons (by omega), show e - s = (e - (s + 1)) + 1 by omega, List.take_succ_cons]
theorem rseg_nil (rs : List Rw) (s : Nat) : rseg rs s s = [] := by simp [rseg]
def hts (rs : List Rw) (i : Nat) : Int := ((rs.getD i (0, 0)).1 : Int)
theorem hts_eq {rs : List Rw} {i : Nat} (h : i < rs.length) : hts rs i = (rs[i].1 : Int) := by simp [hts, List.getD, h]
theorem wth_cons (rs : List Rw) {s e : Nat} (hs : s < e) (h : e ≤ rs.length) : wth rs s e = (rs[s].1 : Int) + gsum (rseg rs (s + 1) e) := by
  unfold wth
  rw [rseg_cons rs hs h]
  rfl
theorem wth_gsum (rs : List Rw) {s e : Nat} (hs : s < e) (h : e ≤ rs.length) : wth rs s e ≤ gsum (rseg rs s e) := by
  rw [wth_cons rs hs h, rseg_cons rs hs h, gsum_cons]
  omega
theorem wth_anti1 (rs : List Rw) {s e : Nat} (hs : s + 1 < e) (h : e ≤ rs.length) : wth rs (s + 1) e ≤ wth rs s e := by
  rw [wth_cons rs (s := s) (by omega) h]
  have := wth_gsum rs hs h
  omega
theorem wth_anti (rs : List Rw) : ∀ (k s e : Nat), s + k < e → e ≤ rs.length → wth rs (s + k) e ≤ wth rs s e
  | 0, s, e, h1, h2 => Int.le_refl _
  | k + 1, s, e, h1, h2 => by
    have a := wth_anti rs k s e (by omega) h2
    have b := wth_anti1 rs (s := s + k) (e := e) (by omega) h2
    have e1 : s + (k + 1) = s + k + 1 := by omega
    rw [e1]
    omega
theorem wth_succ (rs : List Rw) {s e : Nat} (hs : s ≤ e) (h : e < rs.length) : wth rs s (e + 1) = wth rs s e + (rs[e].1 : Int) + (if s < e then (rs[e].2 : Int) else 0) := by
  unfold wth
  rw [rseg_succ rs hs h]
  by_cases hse : s < e
  · rw [if_pos hse, rseg_cons rs hse (by omega)]
    show _ + gsum (_ ++ _) = _ + gsum _ + _ + _
    rw [gsum_app]
    simp only [gsum_cons]
    have : gsum [] = 0 := rfl
    omega
  · have : s = e := by omega
    subst this
    rw [if_neg hse, rseg_nil]
    show ((rs[s].1 : Int) + gsum []) = 0 + _ + 0
    have : gsum [] = 0 := rfl
    omega
theorem wth_self (rs : List Rw) (s : Nat) : wth rs s s = 0 := by unfold wth; rw [rseg_nil]; rfl
theorem wth_mono (rs : List Rw) (s : Nat) : ∀ (k e : Nat), s ≤ e → e + k ≤ rs.length → wth rs s e ≤ wth rs s (e + k)
  | 0, e, h1, h2 => Int.le_refl _
  | k + 1, e, h1, h2 => by
    have a := wth_mono rs s k e h1 (by omega)
    have b := wth_succ rs (s := s) (e := e + k) (by omega) (by omega)
    have e1 : e + (k + 1) = e + k + 1 := by omega
    rw [e1, b]
    split <;> omega
theorem wth_wid (rs : List Rw) : Wid (wth rs) (hts rs) rs.length := by
  refine ⟨fun s s' e h1 h2 h3 => ?_, fun u i e h1 h2 h3 => ?_, fun s hs => ?_⟩
  · have := wth_anti rs (s' - s) s e (by omega) h3
    rwa [show s + (s' - s) = s' by omega] at this
  · have a := wth_anti rs (i - u) u e (by omega) h3
    rw [show u + (i - u) = i by omega] at a
    rw [wth_cons rs h2 h3] at a
    have := gsum_nn (rseg rs (i + 1) e)
    rw [hts_eq (by omega)]
    omega
  · rw [wth_succ rs (Nat.le_refl s) hs, wth_self, hts_eq hs]
    simp
theorem wth_bd {rs : List Rw} (h : Rok rs) {s e : Nat} (hs : s ≤ e) (he : e ≤ rs.length) : 0 ≤ wth rs s e ∧ wth rs s e ≤ 72 := by
  have aux : ∀ k, s + k ≤ rs.length → 0 ≤ wth rs s (s + k) ∧ wth rs s (s + k) ≤ 9 * k := by
    intro k
    induction k with
    | zero => intro _; rw [Nat.add_zero, wth_self]; simp
    | succ k ih =>
      intro hk
      obtain ⟨a, b⟩ := ih (by omega)
      have c := wth_succ rs (s := s) (e := s + k) (by omega) (by omega)
      have d1 := h.h2 rs[s + k] (List.getElem_mem _)
      have d2 := h.g rs[s + k] (List.getElem_mem _)
      rw [show s + (k + 1) = s + k + 1 by omega, c]
      split <;> omega
  have := aux (e - s) (by omega)
  rw [show s + (e - s) = e by omega] at this
  have := h.len
  omega
/-! ### the items of the rows -/
theorem body_snoc (a : List Rw) (r : Rw) : (body (a ++ [r])).tail = if a.length = 0 then [Item.box r.1 "x"] else (body a).tail ++ [.glue r.2 0 0, .box r.1 "x"] := by
  cases a with
  | nil => rfl
  | cons x a =>
    rw [if_neg (by simp), body_app]
    rfl
theorem app_item {l : List Item} {x : Item} (h : l.length ≤ 100000) : gAppend (itsP l) [itP x] = some (itsP (l ++ [x]), .non) := by
  unfold itsP
  rw [ap_app, if_pos (by rw [List.length_map, sizeLine_eq]; omega)]
  simp
theorem foldl_snoc {α : Type} : ∀ (l a : List α), l.foldl (fun f e => f ++ [e]) a = a ++ l
  | [], a => by simp
  | x :: l, a => by rw [List.foldl_cons, foldl_snoc l]; simp
theorem items_one (R : PV) (pre : List Rw) (r : Rw) (hl : pre.length ≤ 1000) (s4 s5 : Sl) :
    B__law_items_1 [.sh R, .ow (itsP (body pre).tail), .sh (.int r.1), .sh (.int r.2), s4, s5] = .nx [.sh R, .ow (itsP (body (pre ++ [r])).tail), .sh (.int r.1), .sh (.int r.2), s4, s5] := by
  have hbl := body_len pre
  have htl : (body pre).tail.length = 2 * pre.length - 1 := by rw [List.length_tail, hbl]
  have hN : gLen (itsP (body pre).tail) = some (.int ((body pre).tail.length : Nat)) := by
    simp only [itsP]
    simp [show 2 * pre.length - 1 ≤ sizeLine from szn (by omega), hbl]
  rw [body_snoc]
  unfold B__law_items_1
  by_cases hp : pre.length = 0
  · have hpe : pre = [] := List.eq_nil_of_length_eq_zero hp
    subst hpe
    rw [if_pos hp]
    have ha := app_item (l := []) (x := .box r.1 "x") (by simp)
    have ha : gAppend (itsP []) [.tup [.str "box", .int (r.1 : Int), .str "x"]] = _ := ha
    have ht : isT "list" (itsP []) = true := rfl
    have hN : gLen (itsP []) = some (.int 0) := hN
    simp only [body, List.tail_nil] at *
    generalize itsP [] = L at *
    simp [hN, ha, ht, szn (show 3 ≤ 1000000 by omega)]
  · rw [if_neg hp]
    have ha := app_item (l := (body pre).tail) (x := .glue r.2 0 0) (by omega)
    have hb := app_item (l := (body pre).tail ++ [.glue r.2 0 0]) (x := .box r.1 "x") (by simp; omega)
    rw [List.append_assoc] at hb
    have hb : gAppend _ [.tup [.str "box", .int (r.1 : Int), .str "x"]] = some (itsP ((body pre).tail ++ [.glue r.2 0 0, .box r.1 "x"]), .non) := hb
    have ha : gAppend _ [.tup [.str "glue", .int (r.2 : Int), .int 0, .int 0]] = _ := ha
    have hlen : (0 : Int) < ((body pre).tail.length : Nat) := by omega
    have ht : isT "list" (itsP (body pre).tail) = true := rfl
    have ht2 : isT "list" (itsP ((body pre).tail ++ [.glue r.2 0 0])) = true := rfl
    generalize (((body pre).tail.length : Nat) : Int) = N at *
    generalize itsP ((body pre).tail ++ [.glue r.2 0 0, .box r.1 "x"]) = L3 at *
    generalize itsP ((body pre).tail ++ [.glue r.2 0 0]) = L2 at *
    generalize itsP (body pre).tail = L at *
    simp [hN, hlen, ha, hb, ht, ht2, szn (show 3 ≤ 1000000 by omega), szn (show 4 ≤ 1000000 by omega)]
theorem F__law_items_ok {rs : List Rw} (h : Rok rs) : F__law_items [rowsP rs] = .ok (itsP (its rs)) .non := by
  have hlen := h.len
  obtain ⟨ρ, h3, s2, s3, s4, s5, h4⟩ := dLoop_foldP (tgt := gTup (gsCons (gName 2) (gsCons (gName 3) (gsCons (gName 4) (gsCons (gName 5) gsNil))))) (body := B__law_items_1)
    (fun (f : List Rw) ρ => ∃ s2 s3 s4 s5, ρ = [.sh (rowsP rs), .ow (itsP (body f).tail), s2, s3, s4, s5])
    rowP (fun f e => f ++ [e]) [] rs
    (fun pre e post ρ e1 hr => by
      obtain ⟨s2, s3, s4, s5, rfl⟩ := hr
      have e2 : pre.foldl (fun f e => f ++ [e]) [] = pre := foldl_snoc pre []
      rw [e2]
      have hpl : pre.length ≤ rs.length := by rw [e1]; simp
      have hone := items_one (rowsP rs) pre e (by omega) (.sh (.int 0)) (.sh (.tup []))
      exact ⟨_, _, rfl, .inl hone, _, _, _, _, rfl⟩)
    (ρ0 := [.sh (rowsP rs), .ow (itsP []), .un, .un, .un, .un]) ⟨_, _, _, _, rfl⟩
  have e2 : rs.foldl (fun f e => f ++ [e]) [] = rs := foldl_snoc rs []
  rw [e2] at h4
  subst h4
  have htl : (body rs).tail.length = 2 * rs.length - 1 := by rw [List.length_tail, body_len]
  have ha : gAdd (itsP (body rs).tail) (.lst [.tup [.str "penalty", .int 0, .int (-10000), .bl false]]) = some (itsP (its rs)) := by
    unfold itsP its
    rw [ap_addL, if_pos (by rw [sizeLine_eq, List.length_map, htl]; simp; omega)]
    simp [itP]
  refine run_ex (env := [.sh (rowsP rs), .un, .un, .un, .un, .un]) ?_
  unfold den__law_items
  rw [seq_nx (ρ1 := [.sh (rowsP rs), .ow (itsP []), .un, .un, .un, .un]) (by simp [itsP]),
    seq_nx (by rw [sFor_ok (xs := rs.map rowP) (ρ1 := [.sh (rowsP rs), .ow (itsP []), .un, .un, .un, .un]) (by simp [rowsP])]; exact h3)]
  exact ⟨_, by simp [ha, szn (show 4 ≤ 1000000 by omega), szn (show 1 ≤ 1000000 by omega)]; rfl⟩
/-! ### the rows are rows -/
theorem F_is_integer_ok (a l : Int) : F_is_integer [.int a, .int l] = .ok (.bl (decide (l ≤ a))) .non := by
  refine run_rt (env := [.sh (.int a), .sh (.int l)]) (ρ := [.sh (.int a), .sh (.int l)]) ?_
  by_cases h : l ≤ a <;> simp [den_is_integer, is1, is2, tr_bl, h]
theorem F_is_row_ok {r : Rw} (h : 1 ≤ r.1) : F_is_row [rowP r] = .ok (.bl true) .non := by
  have i1 := F_is_integer_ok (r.1 : Int) 1
  have i2 := F_is_integer_ok (r.2 : Int) 0
  have i3 := F_is_integer_ok 0 0
  rw [decide_eq_true (by omega)] at i1 i2 i3
  unfold rowP
  generalize (r.1 : Int) = a at *
  generalize (r.2 : Int) = b at *
  have t1 := is3 [.int a, .int b, .int 0, .tup []]
  have t2 := is3 []
  have L : dLc [5] (iSeq (dVar 4)) (gName 5) T_is_row_1 E_is_row_1 [.sh (.tup [.int a, .int b, .int 0, .tup []]), .sh (.int a), .sh (.int b), .sh (.int 0), .sh (.tup []), .un] = .ok (.lst []) [.sh (.tup [.int a, .int b, .int 0, .tup []]), .sh (.int a), .sh (.int b), .sh (.int 0), .sh (.tup []), .un] := rfl
  refine run_rt (env := [.sh (.tup [.int a, .int b, .int 0, .tup []]), .un, .un, .un, .un, .un]) (ρ := [.sh (.tup [.int a, .int b, .int 0, .tup []]), .sh (.int a), .sh (.int b), .sh (.int 0), .sh (.tup []), .un]) ?_
  unfold den_is_row
  rw [seq_nx (ρ1 := [.sh (.tup [.int a, .int b, .int 0, .tup []]), .un, .un, .un, .un, .un]) (by simp [t1, tr_bl]),
    seq_nx (ρ1 := [.sh (.tup [.int a, .int b, .int 0, .tup []]), .sh (.int a), .sh (.int b), .sh (.int 0), .sh (.tup []), .un]) (by simp),
    seq_nx (ρ1 := [.sh (.tup [.int a, .int b, .int 0, .tup []]), .sh (.int a), .sh (.int b), .sh (.int 0), .sh (.tup []), .un]) (by simp [i1, i2, t2, tr_bl])]
  simp [L, i3, tr_bl, tr_nil, isN_int, -ap_dLc]
theorem len_rows {rs : List Rw} (h : rs.length ≤ 8) : gLenN [rowsP rs] = some (.int (rs.length : Nat)) := by simp [rowsP, show rs.length ≤ sizeLine from szn (by omega)]
theorem F_check_rows_ok {rs : List Rw} (h : Rok rs) : F_check_rows [rowsP rs] = .ok .non .non := by
  have L := dLc_okF (T := T_check_rows_1) (E := E_check_rows_1) (i := 1) (di := iSeq (dVar 0)) (ρ := [.sh (rowsP rs), .un]) rowP rowP (fun _ => false) rs (by simp [rowsP]) rfl (by have := h.len; omega)
    (fun c hc => by simp [T_check_rows_1, Sl.lock, F_is_row_ok (h.h1 c hc), tr_bl]) (fun c hc e => nomatch e)
  have e : List.filter (fun _ : Rw => false) rs = [] := by simp
  rw [e] at L
  have L : dLc [1] (iSeq (dVar 0)) (gName 1) T_check_rows_1 E_check_rows_1 [.sh (rowsP rs), .un] = .ok (.lst []) [.sh (rowsP rs), .un] := L
  have h5 := len_rows h.len
  have h6 : ¬ (200 : Int) < (rs.length : Nat) := by have := h.len; omega
  generalize (rs.length : Nat) = N at *
  refine run_nx (env := [.sh (rowsP rs), .un]) (ρ := [.sh (rowsP rs), .un]) ?_
  simp [den_check_rows, L, tr_nil, h5, h6, c_MOST_ROWS, -ap_dLc, -ap_lenN]
theorem F_check_heights_ok {rs : List Rw} (h : Rok rs) {H : Int} (hH : 1 ≤ H) : F_check_heights [rowsP rs, .int H, .int 0] = .ok .non .non := by
  refine run_nx (env := [.sh (rowsP rs), .sh (.int H), .sh (.int 0)]) (ρ := [.sh (rowsP rs), .sh (.int H), .sh (.int 0)]) ?_
  have h1 : ¬ H < 1 := by omega
  simp [den_check_heights, F_check_rows_ok h, h1]
theorem F_check_columns_ok {rs : List Rw} (h : Rok rs) {H : Int} (hH : 1 ≤ H) : F_check_columns [rowsP rs, .int H] = .ok .non .non := by
  refine run_nx (env := [.sh (rowsP rs), .sh (.int H)]) (ρ := [.sh (rowsP rs), .sh (.int H)]) ?_
  have h1 : ¬ H < 1 := by omega
  simp [den_check_columns, F_check_rows_ok h, h1]
end PL.K95

set_option Elab.async false
set_option linter.all false
set_option maxRecDepth 100000
set_option maxHeartbeats 4000000
namespace PL.K95
open PySem PySem.Spec L2 PL
set_option autoImplicit false
/-! ### Pages -/
def pgO (R : PV) (H : Int) (N : Int) : PV := .obj "Pages" ["rows", "height", "rule", "count"] [R, .int H, .int 0, .int N]
def pgP (rs : List Rw) (H : Int) : PV := pgO (rowsP rs) H (rs.length : Nat)
section
variable {R : PV} {H N : Int}
theorem fld_rows : gFld ("Pages" : Str) ("rows" : Str) (pgO R H N) = some R := by kernel_rfl
theorem fld_height : gFld ("Pages" : Str) ("height" : Str) (pgO R H N) = some (.int H) := by kernel_rfl
theorem fld_rule : gFld ("Pages" : Str) ("rule" : Str) (pgO R H N) = some (.int 0) := by kernel_rfl
theorem fld_count : gFld ("Pages" : Str) ("count" : Str) (pgO R H N) = some (.int N) := by kernel_rfl
theorem put_1 : putK ("rows" : Str) R [] [] = ([("rows" : Str)], [R]) := by kernel_rfl
theorem put_2 : putK ("height" : Str) (.int H) [("rows" : Str)] [R] = ([("rows" : Str), ("height" : Str)], [R, .int H]) := by kernel_rfl
theorem put_3 : putK ("rule" : Str) (.int 0) [("rows" : Str), ("height" : Str)] [R, .int H] = ([("rows" : Str), ("height" : Str), ("rule" : Str)], [R, .int H, .int 0]) := by kernel_rfl
theorem put_4 : putK ("count" : Str) (.int N) [("rows" : Str), ("height" : Str), ("rule" : Str)] [R, .int H, .int 0] = ([("rows" : Str), ("height" : Str), ("rule" : Str), ("count" : Str)], [R, .int H, .int 0, .int N]) := by kernel_rfl
end
theorem F_init_ok {rs : List Rw} (h : rs.length ≤ 8) (H : Int) : F_Pages___init__ [.obj "Pages" [] [], rowsP rs, .int H, .int 0] = .ok .non (pgP rs H) := by
  have hN := len_rows h
  unfold pgP
  generalize (rs.length : Nat) = N at *
  generalize rowsP rs = R at *
  refine run_ionx (env := [.io (.obj "Pages" [] []), .sh R, .sh (.int H), .sh (.int 0)]) (ρ := [.sh R, .sh (.int H), .sh (.int 0)]) ?_
  simp [den_Pages___init__, put_1, put_2, put_3, put_4, hN, Sl.with, pgO, -ap_lenN]
theorem make_ok {rs : List Rw} (h : rs.length ≤ 8) (H : Int) {da : DenL} {ρ ρ1 : Env} (e : da ρ = .ok [rowsP rs, .int H, .int 0] ρ1) : dMake ("Pages" : Str) F_Pages___init__ da ρ = .ok (pgP rs H) ρ1 := by
  rw [ap_dMake, e, bind_ok, F_init_ok h H]
  rfl
theorem meth_ok {rs : List Rw} {H : Int} {m : Str} {F : List PV → FR} {dob : Den} {da : DenL} {ρ ρ1 ρ2 : Env} {ps : List PV} {z q : PV} (hm : (["rows", "height", "rule", "count"] : List Str).contains m = false) (e : dob ρ = .ok (pgP rs H) ρ1) (e2 : da ρ1 = .ok ps ρ2) (e3 : F (pgP rs H :: ps) = .ok z q) : dMeth ("Pages" : Str) m F dob da ρ = .ok z ρ2 := by
  rw [ap_dMeth, e, bind_ok]
  show (if (decide (("Pages" : Str) = "Pages") && !(["rows", "height", "rule", "count"] : List Str).contains m) = true then (da ρ1).bind fun ps ρ2 => match F (pgP rs H :: ps) with
    | .bad => .bad
    | .exc x => .exc x ρ2
    | .ok z _ => .ok z ρ2
    else .bad) = _
  rw [hm, if_pos (by simp), e2, bind_ok, e3]
theorem ix_rows {rs : List Rw} {k : Nat} (h : k < rs.length) : gIx (rowsP rs) (.int (k : Int)) = some (rowP rs[k]) := by
  show atI (rs.map rowP) (k : Nat) = _
  rw [atI_nat (by simpa using h)]
  simp
def endP (rs : List Rw) (s e : Nat) : PV := .tup [.int (e : Int), .int (wth rs s e)]
def endsP (rs : List Rw) (H : Int) (s : Nat) : PV := .lst ((able (wth rs) rs.length H s).map (endP rs s))
theorem ends_one {rs : List Rw} (h : Rok rs) (H : Int) {s k : Nat} (hs : s ≤ k) (hk : k < rs.length) (f : List PV) (hf : f.length ≤ 1000) (s6 s7 s8 s9 : Sl) :
    B_Pages_ends_1 [.sh (pgP rs H), .sh (.int (s : Int)), .ow (.lst f), .sh (.int (wth rs s k)), .sh (.int 0), .sh (.int ((k + 1 : Nat) : Int)), s6, s7, s8, s9] =
      .nx [.sh (pgP rs H), .sh (.int (s : Int)), .ow (.lst (if wth rs s (k + 1) ≤ H then f ++ [endP rs s (k + 1)] else f)), .sh (.int (wth rs s (k + 1))), .sh (.int 0), .sh (.int ((k + 1 : Nat) : Int)), .sh (.int rs[k].1), .sh (.int rs[k].2), .sh (.int 0), .sh (.tup [])] := by
  have hx := ix_rows hk
  unfold rowP at hx
  have hw := wth_succ rs hs hk
  have ek : ((k + 1 : Nat) : Int) - 1 = (k : Int) := by omega
  have hgt : decide ((s : Int) < (k : Int)) = decide (s < k) := by simp
  have ha : gAppend (.lst f) [endP rs s (k + 1)] = some (.lst (f ++ [endP rs s (k + 1)]), .non) := by
    rw [ap_app, if_pos (by rw [sizeLine_eq]; omega)]
  unfold endP at *
  have hsum : gSumU [.tup []] = some (.int 0) := rfl
  have hT : (wth rs s k + (rs[k].1 : Int) + 0) + (rs[k].2 : Int) * (if s < k then 1 else 0) = wth rs s (k + 1) := by
    rw [hw]; split <;> simp
  generalize wth rs s (k + 1) = T1 at *
  generalize wth rs s k = T0 at *
  generalize (rs[k].1 : Int) = a at *
  generalize (rs[k].2 : Int) = b at *
  have hrow := fld_rows (R := rowsP rs) (H := H) (N := (rs.length : Nat))
  have hhe := fld_height (R := rowsP rs) (H := H) (N := (rs.length : Nat))
  have hru := fld_rule (R := rowsP rs) (H := H) (N := (rs.length : Nat))
  have hco := fld_count (R := rowsP rs) (H := H) (N := (rs.length : Nat))
  have e0 : pgP rs H = pgO (rowsP rs) H (rs.length : Nat) := rfl
  rw [← e0] at hrow hhe hru hco
  generalize pgP rs H = P at *
  have hlt : (s : Int) < (k : Int) ↔ s < k := by omega
  generalize ((k + 1 : Nat) : Int) = z at *
  generalize ((rs.length : Nat) : Int) = N at *
  unfold B_Pages_ends_1
  rw [seq_nx (ρ1 := [.sh P, .sh (.int (s : Int)), .ow (.lst f), .sh (.int T0), .sh (.int 0), .sh (.int z), .sh (.int a), .sh (.int b), .sh (.int 0), .sh (.tup [])]) (by simp [hrow, ek, hx])]
  have S2 : sSet 3 (dAdd (dAdd (dAdd (dVar 3) (dVar 6)) (dN gSumU (dCons (dVar 9) dNil))) (dMul (dVar 7) (dN gInt (dCons (d2 gGt (dSub (dVar 5) (dC (.int 1))) (dVar 1)) dNil)))) [.sh P, .sh (.int (s : Int)), .ow (.lst f), .sh (.int T0), .sh (.int 0), .sh (.int z), .sh (.int a), .sh (.int b), .sh (.int 0), .sh (.tup [])] = .nx [.sh P, .sh (.int (s : Int)), .ow (.lst f), .sh (.int T1), .sh (.int 0), .sh (.int z), .sh (.int a), .sh (.int b), .sh (.int 0), .sh (.tup [])] := by
    rw [← hT]
    by_cases hsk : s < k
    · rw [if_pos hsk]
      simp [hsum, ek, hsk, smI (i := 1) (by omega) (by omega)]
    · rw [if_neg hsk]
      simp [hsum, ek, hsk, smI (i := 0) (by omega) (by omega)]
  rw [seq_nx S2, seq_nx (ρ1 := [.sh P, .sh (.int (s : Int)), .ow (.lst f), .sh (.int T1), .sh (.int 0), .sh (.int z), .sh (.int a), .sh (.int b), .sh (.int 0), .sh (.tup [])]) (by simp [show truth (.tup []) = some false from rfl])]
  have hB : ∃ b', bOr (bVal (d2 gEq (dVar 5) (d1 (gFld ("Pages" : Str) ("count" : Str)) (dVar 0)))) (bVal (d2 (gIsN true) (dVar 8) (dC .non))) [.sh P, .sh (.int (s : Int)), .ow (.lst f), .sh (.int T1), .sh (.int 0), .sh (.int z), .sh (.int a), .sh (.int b), .sh (.int 0), .sh (.tup [])] = .ok true [.sh P, .sh (.int (s : Int)), .ow (.lst f), .sh (.int T1), .sh (.int 0), .sh (.int z), .sh (.int a), .sh (.int b), .sh (.int 0), .sh (.tup [])] ∧ b' = true := by
    refine ⟨true, ?_, rfl⟩
    by_cases hz : z = N <;> simp [hco, hz, isN_int]
  obtain ⟨_, hB, _⟩ := hB
  rw [sIf_t hB]
  have ht : isT "list" (.lst f) = true := rfl
  by_cases hH : T1 ≤ H
  · rw [if_pos hH]
    simp [hhe, hH, ha, ht, szn (show 2 ≤ 1000000 by omega)]
  · rw [if_neg hH]
    simp [hhe, hH]
theorem F_ends_ok {rs : List Rw} (h : Rok rs) (H : Int) {s : Nat} (hs : s ≤ rs.length) : F_Pages_ends [pgP rs H, .int (s : Int)] = .ok (endsP rs H s) .non := by
  have hlen := h.len
  obtain ⟨ρ, h3, s5, s6, s7, s8, s9, h4⟩ := dLoop_foldP (tgt := gName 5) (body := B_Pages_ends_1)
    (fun (f : List Nat) ρ => ∃ s5 s6 s7 s8 s9, ρ = [.sh (pgP rs H), .sh (.int (s : Int)), .ow (.lst ((f.filter fun e => decide (wth rs s e ≤ H)).map (endP rs s))), .sh (.int (wth rs s (s + f.length))), .sh (.int 0), s5, s6, s7, s8, s9])
    (fun i : Nat => PV.int (i : Int)) (fun f e => f ++ [e]) [] (List.range' (s + 1) (rs.length - s))
    (fun pre e post ρ e1 hr => by
      obtain ⟨s5, s6, s7, s8, s9, rfl⟩ := hr
      have e2 : pre.foldl (fun f e => f ++ [e]) [] = pre := foldl_snoc pre []
      rw [e2]
      have hpl : pre.length < rs.length - s := by
        have := congrArg List.length e1
        simp at this
        omega
      have he : e = s + pre.length + 1 := by
        have e3 : (List.range' (s + 1) (rs.length - s))[pre.length]? = some e := by rw [e1]; simp
        rw [List.getElem?_range' (by omega)] at e3
        cases e3
        omega
      subst he
      have hone := ends_one h H (s := s) (k := s + pre.length) (by omega) (by omega) ((pre.filter fun e => decide (wth rs s e ≤ H)).map (endP rs s)) (by have := List.length_filter_le (fun e => decide (wth rs s e ≤ H)) pre; simp; omega) s6 s7 s8 s9
      refine ⟨_, _, rfl, .inl hone, .sh (.int ((s + pre.length + 1 : Nat) : Int)), .sh (.int (rs[s + pre.length]'(by omega)).1), .sh (.int (rs[s + pre.length]'(by omega)).2), .sh (.int 0), .sh (.tup []), ?_⟩
      rw [List.length_append, List.length_singleton, List.filter_append, List.map_append]
      rw [show s + (pre.length + 1) = s + pre.length + 1 by omega]
      by_cases hH : wth rs s (s + pre.length + 1) ≤ H
      · rw [if_pos hH]
        simp [hH]
      · rw [if_neg hH]
        simp [hH])
    (ρ0 := [.sh (pgP rs H), .sh (.int (s : Int)), .ow (.lst []), .sh (.int 0), .sh (.int 0), .un, .un, .un, .un, .un]) ⟨.un, .un, .un, .un, .un, by simp [wth_self]⟩
  have e2 := foldl_snoc (List.range' (s + 1) (rs.length - s)) []
  rw [e2, List.nil_append] at h4
  subst h4
  have hco := fld_count (R := rowsP rs) (H := H) (N := (rs.length : Nat))
  have e0 : pgP rs H = pgO (rowsP rs) H (rs.length : Nat) := rfl
  rw [← e0] at hco
  refine run_ex (env := [.sh (pgP rs H), .sh (.int (s : Int)), .un, .un, .un, .un, .un, .un, .un, .un]) ?_
  unfold den_Pages_ends
  have hI : iR2 (dCons (dAdd (dVar 1) (dC (.int 1))) (dCons (dAdd (d1 (gFld ("Pages" : Str) ("count" : Str)) (dVar 0)) (dC (.int 1))) dNil)) [.sh (pgP rs H), .sh (.int (s : Int)), .ow (.lst []), .sh (.int 0), .sh (.int 0), .un, .un, .un, .un, .un] = .ok ((List.range' (s + 1) (rs.length - s)).map fun i : Nat => PV.int (i : Int)) [.sh (pgP rs H), .sh (.int (s : Int)), .ow (.lst []), .sh (.int 0), .sh (.int 0), .un, .un, .un, .un, .un] := by
    have hr := rg2_ok (ρ := [.sh (pgP rs H), .sh (.int (s : Int)), .ow (.lst []), .sh (.int 0), .sh (.int 0), .un, .un, .un, .un, .un]) (i := ((s + 1 : Nat) : Int)) (j := ((rs.length + 1 : Nat) : Int)) (by omega) (by omega) (by omega) (by omega)
    have e3 : (((rs.length + 1 : Nat) : Int) - ((s + 1 : Nat) : Int)).toNat = rs.length - s := by omega
    rw [e3, range_from] at hr
    have e4 : ((s + 1 : Nat) : Int) = (s : Int) + 1 := by omega
    have e5 : ((rs.length + 1 : Nat) : Int) = ((rs.length : Nat) : Int) + 1 := by omega
    rw [e4, e5] at hr
    generalize pgP rs H = P at *
    generalize ((rs.length : Nat) : Int) = N at *
    generalize (s : Int) = z at *
    simp [hco]
    exact hr
  rw [seq_nx (ρ1 := [.sh (pgP rs H), .sh (.int (s : Int)), .ow (.lst []), .un, .un, .un, .un, .un, .un, .un]) (by simp),
    seq_nx (ρ1 := [.sh (pgP rs H), .sh (.int (s : Int)), .ow (.lst []), .sh (.int 0), .un, .un, .un, .un, .un, .un]) (by simp),
    seq_nx (ρ1 := [.sh (pgP rs H), .sh (.int (s : Int)), .ow (.lst []), .sh (.int 0), .sh (.int 0), .un, .un, .un, .un, .un]) (by simp),
    seq_nx (by rw [sFor_ok hI]; exact h3)]
  unfold endsP able
  exact ⟨_, by simp <;> rfl⟩
theorem F_badness_ok {rs : List Rw} (h : Rok rs) {H : Int} (hH1 : -1000 ≤ H) (hH2 : H ≤ 1000) {s e : Nat} (h1 : s < e) (h2 : e ≤ rs.length) : F_Pages_badness [pgP rs H, .int (e : Int), .int (wth rs s e)] = .ok (.int (cst (wth rs) rs.length H s e)) .non := by
  have hrow := fld_rows (R := rowsP rs) (H := H) (N := (rs.length : Nat))
  have hhe := fld_height (R := rowsP rs) (H := H) (N := (rs.length : Nat))
  have hco := fld_count (R := rowsP rs) (H := H) (N := (rs.length : Nat))
  have e0 : pgP rs H = pgO (rowsP rs) H (rs.length : Nat) := rfl
  rw [← e0] at hrow hhe hco
  have hx := ix_rows (rs := rs) (k := e - 1) (by omega)
  unfold rowP at hx
  rw [show ((e - 1 : Nat) : Int) = (e : Int) - 1 by omega] at hx
  unfold cst
  have hb := wth_bd h (Nat.le_of_lt h1) h2
  generalize wth rs s e = T at *
  have hsm := smI (i := H - T) (by omega) (by omega)
  generalize (rs[e - 1].1 : Int) = a at *
  generalize (rs[e - 1].2 : Int) = b at *
  by_cases hn : e = rs.length
  · rw [if_pos hn]
    have hz : (e : Int) = ((rs.length : Nat) : Int) := by omega
    generalize pgP rs H = P at *
    generalize (e : Int) = z at *
    generalize ((rs.length : Nat) : Int) = N at *
    subst hz
    refine run_rt (env := [.sh P, .sh (.int z), .sh (.int T), .un]) (ρ := [.sh P, .sh (.int z), .sh (.int T), .un]) ?_
    unfold den_Pages_badness
    rw [seq_rt (ρ1 := [.sh P, .sh (.int z), .sh (.int T), .un]) (p := .int 0) (by simp [hco])]
  · rw [if_neg hn]
    have hz : ¬ (e : Int) = ((rs.length : Nat) : Int) := by omega
    generalize pgP rs H = P at *
    generalize (e : Int) = z at *
    generalize ((rs.length : Nat) : Int) = N at *
    refine run_rt (env := [.sh P, .sh (.int z), .sh (.int T), .un]) (ρ := [.sh P, .sh (.int z), .sh (.int T), .sh (.int (H - T))]) ?_
    unfold den_Pages_badness
    rw [seq_nx (ρ1 := [.sh P, .sh (.int z), .sh (.int T), .un]) (by simp [hco, hz]), seq_nx (ρ1 := [.sh P, .sh (.int z), .sh (.int T), .sh (.int (H - T))]) (by simp [hhe])]
    simp [hrow, hx, at2, hsm]
end PL.K95

set_option Elab.async false
set_option linter.all false
set_option maxRecDepth 100000
set_option maxHeartbeats 4000000
namespace PL.K95
open PySem PySem.Spec L2 PL
set_option autoImplicit false
/-! ### taking the last that fits, in the program -/
theorem wh_end {dc : DenB} {db : DenS} {n : Nat} {ρ ρ1 : Env} (h : dc ρ = .ok false ρ1) : dWhile dc db (n + 1) ρ = .nx ρ1 := by
  unfold dWhile; rw [h]; rfl
theorem wh_step {dc : DenB} {db : DenS} {n : Nat} {ρ ρ1 ρ2 : Env} (h : dc ρ = .ok true ρ1) (h2 : db ρ1 = .nx ρ2) : dWhile dc db (n + 1) ρ = dWhile dc db n ρ2 := by
  simp [dWhile, h, h2]
theorem wh_rt {dc : DenB} {db : DenS} {n : Nat} {ρ ρ1 ρ2 : Env} {p : PV} (h : dc ρ = .ok true ρ1) (h2 : db ρ1 = .rt p ρ2) : dWhile dc db (n + 1) ρ = .rt p ρ2 := by
  simp [dWhile, h, h2]
section
variable {w : Nat → Nat → Int} {n : Nat} {H : Int}
theorem grd_nil {f : Nat} {s : Nat} (h : n - s ≤ f) (hs : n ≤ s) : grd w n H f s = some [] := by
  cases f with
  | zero => rfl
  | succ f => unfold grd; rw [if_pos hs]
theorem wh_greedy {α : Type} {dc : DenB} {db : DenS} (E : List Nat → Nat → α → Env) (cap : Nat)
    (c1 : ∀ acc s x, s < n → dc (E acc s x) = .ok true (E acc s x))
    (c0 : ∀ acc x, dc (E acc n x) = .ok false (E acc n x))
    (b0 : ∀ acc s x, s < n → acc.length ≤ s → (acc.length = cap ∨ (able w n H s).getLast? = none) → ∃ ρ, db (E acc s x) = .rt .non ρ)
    (b1 : ∀ acc s x e, s < n → acc.length ≤ s → acc.length ≠ cap → (able w n H s).getLast? = some e → ∃ x', db (E acc s x) = .nx (E (acc ++ [e]) e x')) :
    ∀ (f fuel s : Nat) (acc : List Nat) (x : α), n - s ≤ f → s ≤ n → n - s < fuel → acc.length ≤ s → acc.length ≤ cap →
      (∀ r, grd w n H f s = some r → acc.length + r.length ≤ cap → ∃ x', dWhile dc db fuel (E acc s x) = .nx (E (acc ++ r) n x')) ∧
      ((∀ r, grd w n H f s = some r → cap < acc.length + r.length) → ∃ ρ, dWhile dc db fuel (E acc s x) = .rt .non ρ) := by
  intro f
  induction f with
  | zero =>
    intro fuel s acc x h1 h2 h3 h4 h5
    obtain ⟨fuel, rfl⟩ : ∃ k, fuel = k + 1 := ⟨fuel - 1, by omega⟩
    have hs : s = n := by omega
    subst hs
    refine ⟨fun r hr _ => ?_, fun h => ?_⟩
    · cases hr
      exact ⟨x, by rw [wh_end (c0 acc x), List.append_nil]⟩
    · have := h [] rfl
      simp at this
      omega
  | succ f ih =>
    intro fuel s acc x h1 h2 h3 h4 h5
    obtain ⟨fuel, rfl⟩ : ∃ k, fuel = k + 1 := ⟨fuel - 1, by omega⟩
    by_cases hs : s = n
    · subst hs
      have e0 := grd_nil (w := w) (H := H) h1 (Nat.le_refl _)
      refine ⟨fun r hr _ => ?_, fun h => ?_⟩
      · rw [e0] at hr
        cases hr
        exact ⟨x, by rw [wh_end (c0 acc x), List.append_nil]⟩
      · have := h [] e0
        simp at this
        omega
    · have hlt : s < n := by omega
      cases ha : (able w n H s).getLast? with
      | none =>
        have hg : grd w n H (f + 1) s = none := by unfold grd; rw [if_neg (by omega)]; simp only [ha]
        obtain ⟨ρ, hb⟩ := b0 acc s x hlt h4 (.inr ha)
        exact ⟨fun r hr => (by rw [hg] at hr; cases hr), fun _ => ⟨ρ, wh_rt (c1 acc s x hlt) hb⟩⟩
      | some e =>
        have hg : grd w n H (f + 1) s = (grd w n H f e).map fun r => e :: r := by
          rw [show grd w n H (f + 1) s = if n ≤ s then some [] else match (able w n H s).getLast? with
            | none => none
            | some e => (grd w n H f e).map fun r => e :: r from rfl, if_neg (by omega)]
          simp only [ha]
        by_cases hc : acc.length = cap
        · obtain ⟨ρ, hb⟩ := b0 acc s x hlt h4 (.inl hc)
          refine ⟨fun r hr hle => ?_, fun _ => ⟨ρ, wh_rt (c1 acc s x hlt) hb⟩⟩
          rw [hg] at hr
          cases hg2 : grd w n H f e with
          | none => rw [hg2] at hr; cases hr
          | some r' => rw [hg2] at hr; cases hr; simp at hle; omega
        · obtain ⟨x', hb⟩ := b1 acc s x e hlt h4 hc ha
          obtain ⟨k1, k2⟩ := able_last ha
          have := k1.1
          have := k1.2.1
          obtain ⟨i1, i2⟩ := ih fuel e (acc ++ [e]) x' (by omega) (by omega) (by omega) (by simp; omega) (by simp; omega)
          rw [wh_step (c1 acc s x hlt) hb, hg]
          refine ⟨fun r hr hle => ?_, fun h => ?_⟩
          · cases hg2 : grd w n H f e with
            | none => rw [hg2] at hr; cases hr
            | some r' =>
              rw [hg2] at hr
              cases hr
              obtain ⟨x2, h6⟩ := i1 r' hg2 (by simp at hle ⊢; omega)
              exact ⟨x2, by rw [h6]; simp⟩
          · refine i2 fun r' hr' => ?_
            have := h (e :: r') (by rw [hr']; rfl)
            simp at this ⊢
            omega
end
def gres (o : Option (List Nat)) : PV := match o with
  | none => .non
  | some r => nP r
theorem ix_lastG (l : List PV) (x : PV) : gIx (.lst (l ++ [x])) (.int (-1)) = some x := by
  show atI (l ++ [x]) (-1) = _
  unfold atI ixN
  have e1 : (l ++ [x]).length = l.length + 1 := by simp
  rw [e1, if_neg (by omega), if_pos (by omega)]
  have e2 : ((-1 : Int) + ((l.length + 1 : Nat) : Int)).toNat = l.length := by omega
  rw [e2]
  simp
theorem last_snoc {α : Type} {l : List α} {x : α} (h : l.getLast? = some x) : ∃ m, l = m ++ [x] := by
  have hne : l ≠ [] := fun z => by rw [z] at h; cases h
  refine ⟨l.dropLast, ?_⟩
  rw [List.getLast?_eq_some_getLast hne] at h
  cases h
  exact (List.dropLast_concat_getLast hne).symm
theorem app_nat {l : List Nat} {i : Nat} (h : l.length ≤ 100000) : gAppend (nP l) [.int (i : Nat)] = some (nP (l ++ [i]), .non) := by
  unfold nP
  rw [ap_app, if_pos (by rw [List.length_map, sizeLine_eq]; omega)]
  simp
theorem ends_last {rs : List Rw} {H : Int} {s e : Nat} (h : (able (wth rs) rs.length H s).getLast? = some e) : gIx (endsP rs H s) (.int (-1)) = some (endP rs s e) ∧ truth (endsP rs H s) = some true := by
  obtain ⟨m, hm⟩ := last_snoc h
  unfold endsP
  rw [hm, List.map_append]
  exact ⟨ix_lastG _ _, by cases m <;> rfl⟩
theorem ends_none {rs : List Rw} {H : Int} {s : Nat} (h : (able (wth rs) rs.length H s).getLast? = none) : truth (endsP rs H s) = some false := by
  rw [List.getLast?_eq_none_iff] at h
  unfold endsP
  rw [h]
  rfl
theorem meth_ends {rs : List Rw} (h : Rok rs) {H : Int} {s : Nat} (hs : s ≤ rs.length) {dob : Den} {da : DenL} {ρ ρ1 ρ2 : Env} (e : dob ρ = .ok (pgP rs H) ρ1) (e2 : da ρ1 = .ok [.int (s : Int)] ρ2) : dMeth ("Pages" : Str) ("ends" : Str) F_Pages_ends dob da ρ = .ok (endsP rs H s) ρ2 :=
  meth_ok (by kernel_rfl) e e2 (F_ends_ok h H hs)
theorem F_first_fit_ok {rs : List Rw} (h : Rok rs) {H : Int} (hH : 1 ≤ H) : F_first_fit [rowsP rs, .int H, .int 0] = .ok (gres (grd (wth rs) rs.length H rs.length 0)) .non := by
  have hlen := h.len
  have hN := len_rows hlen
  let E : List Nat → Nat → Sl → Env := fun acc s x => [.sh (rowsP rs), .sh (.int H), .sh (.int 0), .sh (pgP rs H), .ow (nP acc), .sh (.int (s : Int)), x]
  have hB : ∀ acc s x, s < rs.length → sSet 6 (dMeth ("Pages" : Str) ("ends" : Str) F_Pages_ends (dVar 3) (dCons (dVar 5) dNil)) (E acc s x) = .nx [.sh (rowsP rs), .sh (.int H), .sh (.int 0), .sh (pgP rs H), .ow (nP acc), .sh (.int (s : Int)), .sh (endsP rs H s)] := fun acc s x hs => by
    rw [sSet_ok (meth_ends h (H := H) (s := s) (by omega) (dob := dVar 3) (da := dCons (dVar 5) dNil) (ρ := E acc s x) (ρ1 := E acc s x) (ρ2 := E acc s x) rfl rfl)]
    rfl
  obtain ⟨k1, k2⟩ := wh_greedy (w := wth rs) (n := rs.length) (H := H) (dc := bVal (d2 gLt (dVar 5) (dN gLenN (dCons (dVar 0) dNil)))) (db := B_first_fit_1) E 1000
    (fun acc s x hs => by
      have hs : (s : Int) < (rs.length : Nat) := by omega
      have hN : gLenN [rowsP rs] = some (.int ((rs.length : Nat) : Int)) := hN
      simp only [E]
      generalize ((rs.length : Nat) : Int) = N at *
      generalize (s : Int) = z at *
      simp [hN, hs, -ap_lenN])
    (fun acc x => by
      have hN : gLenN [rowsP rs] = some (.int ((rs.length : Nat) : Int)) := hN
      simp only [E]
      generalize ((rs.length : Nat) : Int) = N at *
      simp [hN, -ap_lenN])
    (fun acc s x hs ha hc => by
      rcases hc with hc | hc
      · omega
      · refine ⟨[.sh (rowsP rs), .sh (.int H), .sh (.int 0), .sh (pgP rs H), .ow (nP acc), .sh (.int (s : Int)), .sh (endsP rs H s)], ?_⟩
        unfold B_first_fit_1
        rw [seq_nx (hB acc s x hs), seq_rt (p := .non) (ρ1 := [.sh (rowsP rs), .sh (.int H), .sh (.int 0), .sh (pgP rs H), .ow (nP acc), .sh (.int (s : Int)), .sh (endsP rs H s)]) (by simp [ends_none hc])])
    (fun acc s x e hs ha hc he => by
      obtain ⟨l1, l2⟩ := ends_last he
      have ap := app_nat (l := acc) (i := e) (by omega)
      have ht : isT "list" (nP acc) = true := rfl
      refine ⟨.sh (endsP rs H s), ?_⟩
      unfold B_first_fit_1
      rw [seq_nx (hB acc s x hs)]
      unfold endP at l1
      generalize endsP rs H s = L at *
      rw [seq_nx (ρ1 := [.sh (rowsP rs), .sh (.int H), .sh (.int 0), .sh (pgP rs H), .ow (nP acc), .sh (.int (s : Int)), .sh L]) (by simp [l2])]
      generalize (s : Int) = z at *
      simp [E, l1, ap, ht, at0])
    rs.length (rs.length + 2) 0 [] .un (by omega) (by omega) (by omega) (by simp) (by simp)
  have hM := make_ok (rs := rs) hlen H (da := dCons (dVar 0) (dCons (dVar 1) (dCons (dVar 2) dNil))) (ρ := [.sh (rowsP rs), .sh (.int H), .sh (.int 0), .un, .un, .un, .un]) (ρ1 := [.sh (rowsP rs), .sh (.int H), .sh (.int 0), .un, .un, .un, .un]) rfl
  have hmu : muD 0 5 (E [] 0 .un) = rs.length + 2 := by
    show (((rs.map rowP).length : Nat) - ((0 : Nat) : Int)).toNat + 2 = _
    rw [List.length_map]; omega
  have hW : sWhile (muD 0 5) (bVal (d2 gLt (dVar 5) (dN gLenN (dCons (dVar 0) dNil)))) B_first_fit_1 (E [] 0 .un) = dWhile (bVal (d2 gLt (dVar 5) (dN gLenN (dCons (dVar 0) dNil)))) B_first_fit_1 (rs.length + 2) (E [] 0 .un) := by
    unfold sWhile; rw [hmu]
  have hC := F_check_heights_ok h hH
  have pre : ∀ r : DenS, (sSeq (sExpr (dCall F_check_heights (dCons (dVar 0) (dCons (dVar 1) (dCons (dVar 2) dNil)))))
    (sSeq (sSet 3 (dMake ("Pages" : Str) F_Pages___init__ (dCons (dVar 0) (dCons (dVar 1) (dCons (dVar 2) dNil)))))
    (sSeq (sSetF 4 (dLst dNil))
    (sSeq (sSet 5 (dC (.int 0))) r)))) [.sh (rowsP rs), .sh (.int H), .sh (.int 0), .un, .un, .un, .un] = r (E [] 0 .un) := fun r => by
    rw [seq_nx (ρ1 := [.sh (rowsP rs), .sh (.int H), .sh (.int 0), .un, .un, .un, .un]) (by simp [hC]), seq_nx (sSet_ok hM),
      seq_nx (ρ1 := [.sh (rowsP rs), .sh (.int H), .sh (.int 0), .sh (pgP rs H), .ow (nP []), .un, .un]) (by simp [nP]), seq_nx (ρ1 := E [] 0 .un) (by simp [E])]
  refine run_ex (env := [.sh (rowsP rs), .sh (.int H), .sh (.int 0), .un, .un, .un, .un]) ?_
  unfold den_first_fit
  rw [pre]
  cases hg : grd (wth rs) rs.length H rs.length 0 with
  | none =>
    obtain ⟨ρ, h6⟩ := k2 fun r hr => by rw [hg] at hr; cases hr
    exact ⟨ρ, by rw [seq_rt (hW.trans h6)]; rfl⟩
  | some r =>
    have hch := grd_chn _ _ _ (by omega) (by omega) hg
    have hrl := (chn_le _ _ _ hch).1
    obtain ⟨x', h6⟩ := k1 r hg (by simp; omega)
    rw [seq_nx (hW.trans h6)]
    exact ⟨_, by simp [E, gres]; rfl⟩
end PL.K95

set_option Elab.async false
set_option linter.all false
set_option maxRecDepth 100000
set_option maxHeartbeats 4000000
namespace PL.K95
open PySem PySem.Spec L2 PL
set_option autoImplicit false
def gresC (o : Option (List Nat)) (cols : Nat) : PV := match o with
  | none => .non
  | some r => if r.length ≤ cols then nP r else .non
theorem F_filled_columns_ok {rs : List Rw} (h : Rok rs) {H : Int} (cols : Nat) : F_filled_columns [rowsP rs, .int (cols : Int), .int H] = .ok (gresC (grd (wth rs) rs.length H rs.length 0) cols) .non := by
  have hlen := h.len
  have hN := len_rows hlen
  let E : List Nat → Nat → Sl → Env := fun acc s x => [.sh (rowsP rs), .sh (.int (cols : Int)), .sh (.int H), .sh (pgP rs H), .ow (nP acc), .sh (.int (s : Int)), x]
  have hB : ∀ acc s x, s < rs.length → sSet 6 (dMeth ("Pages" : Str) ("ends" : Str) F_Pages_ends (dVar 3) (dCons (dVar 5) dNil)) (E acc s x) = .nx [.sh (rowsP rs), .sh (.int (cols : Int)), .sh (.int H), .sh (pgP rs H), .ow (nP acc), .sh (.int (s : Int)), .sh (endsP rs H s)] := fun acc s x hs => by
    rw [sSet_ok (meth_ends h (H := H) (s := s) (by omega) (dob := dVar 3) (da := dCons (dVar 5) dNil) (ρ := E acc s x) (ρ1 := E acc s x) (ρ2 := E acc s x) rfl rfl)]
    rfl
  obtain ⟨k1, k2⟩ := wh_greedy (w := wth rs) (n := rs.length) (H := H) (dc := bVal (d2 gLt (dVar 5) (dN gLenN (dCons (dVar 0) dNil)))) (db := B_filled_columns_1) E cols
    (fun acc s x hs => by
      have hs : (s : Int) < (rs.length : Nat) := by omega
      have hN : gLenN [rowsP rs] = some (.int ((rs.length : Nat) : Int)) := hN
      simp only [E]
      generalize ((rs.length : Nat) : Int) = N at *
      generalize (s : Int) = z at *
      simp [hN, hs, -ap_lenN])
    (fun acc x => by
      have hN : gLenN [rowsP rs] = some (.int ((rs.length : Nat) : Int)) := hN
      simp only [E]
      generalize ((rs.length : Nat) : Int) = N at *
      simp [hN, -ap_lenN])
    (fun acc s x hs ha hc => by
      have hL : gLen (nP acc) = some (.int (acc.length : Nat)) := by simp [nP, show acc.length ≤ sizeLine from szn (by omega)]
      by_cases hz : (able (wth rs) rs.length H s).getLast? = none
      rotate_left
      · obtain ⟨e, he⟩ := Option.ne_none_iff_exists'.mp hz
        have hc : acc.length = cols := hc.resolve_right hz
        have hL : gLen (nP acc) = some (.int (cols : Int)) := by rw [hL, hc]
        obtain ⟨l1, l2⟩ := ends_last he
        refine ⟨[.sh (rowsP rs), .sh (.int (cols : Int)), .sh (.int H), .sh (pgP rs H), .ow (nP acc), .sh (.int (s : Int)), .sh (endsP rs H s)], ?_⟩
        unfold B_filled_columns_1
        rw [seq_nx (hB acc s x hs), seq_rt (p := .non) (ρ1 := [.sh (rowsP rs), .sh (.int (cols : Int)), .sh (.int H), .sh (pgP rs H), .ow (nP acc), .sh (.int (s : Int)), .sh (endsP rs H s)]) (by simp [l2, hL])]
      · have hc := hz
        refine ⟨[.sh (rowsP rs), .sh (.int (cols : Int)), .sh (.int H), .sh (pgP rs H), .ow (nP acc), .sh (.int (s : Int)), .sh (endsP rs H s)], ?_⟩
        unfold B_filled_columns_1
        rw [seq_nx (hB acc s x hs), seq_rt (p := .non) (ρ1 := [.sh (rowsP rs), .sh (.int (cols : Int)), .sh (.int H), .sh (pgP rs H), .ow (nP acc), .sh (.int (s : Int)), .sh (endsP rs H s)]) (by simp [ends_none hc])])
    (fun acc s x e hs ha hc he => by
      obtain ⟨l1, l2⟩ := ends_last he
      have ap := app_nat (l := acc) (i := e) (by omega)
      have ht : isT "list" (nP acc) = true := rfl
      have hL : gLen (nP acc) = some (.int (acc.length : Nat)) := by simp [nP, show acc.length ≤ sizeLine from szn (by omega)]
      have hne : ¬ ((acc.length : Nat) : Int) = (cols : Int) := by omega
      refine ⟨.sh (endsP rs H s), ?_⟩
      unfold B_filled_columns_1
      rw [seq_nx (hB acc s x hs)]
      unfold endP at l1
      generalize endsP rs H s = L at *
      have hq : ∀ a b : Int, ¬ a = b → gEq (.int a) (.int b) = some (.bl false) := fun a b h => by simp [h]
      have hq := hq _ _ hne
      generalize ((acc.length : Nat) : Int) = LN at *
      rw [seq_nx (ρ1 := [.sh (rowsP rs), .sh (.int (cols : Int)), .sh (.int H), .sh (pgP rs H), .ow (nP acc), .sh (.int (s : Int)), .sh L]) (by simp [l2, hL, hne])]
      generalize (s : Int) = z at *
      simp [E, l1, ap, ht, at0])
    rs.length (rs.length + 2) 0 [] .un (by omega) (by omega) (by omega) (by simp) (by simp)
  have hM := make_ok (rs := rs) hlen H (da := dCons (dVar 0) (dCons (dVar 2) (dCons (dC (.int 0)) dNil))) (ρ := [.sh (rowsP rs), .sh (.int (cols : Int)), .sh (.int H), .un, .un, .un, .un]) (ρ1 := [.sh (rowsP rs), .sh (.int (cols : Int)), .sh (.int H), .un, .un, .un, .un]) rfl
  have hmu : muD 0 5 (E [] 0 .un) = rs.length + 2 := by
    show (((rs.map rowP).length : Nat) - ((0 : Nat) : Int)).toNat + 2 = _
    rw [List.length_map]; omega
  have hW : sWhile (muD 0 5) (bVal (d2 gLt (dVar 5) (dN gLenN (dCons (dVar 0) dNil)))) B_filled_columns_1 (E [] 0 .un) = dWhile (bVal (d2 gLt (dVar 5) (dN gLenN (dCons (dVar 0) dNil)))) B_filled_columns_1 (rs.length + 2) (E [] 0 .un) := by
    unfold sWhile; rw [hmu]
  have pre : ∀ r : DenS, (sSeq (sSet 3 (dMake ("Pages" : Str) F_Pages___init__ (dCons (dVar 0) (dCons (dVar 2) (dCons (dC (.int 0)) dNil)))))
    (sSeq (sSetF 4 (dLst dNil))
    (sSeq (sSet 5 (dC (.int 0))) r))) [.sh (rowsP rs), .sh (.int (cols : Int)), .sh (.int H), .un, .un, .un, .un] = r (E [] 0 .un) := fun r => by
    rw [seq_nx (sSet_ok hM),
      seq_nx (ρ1 := [.sh (rowsP rs), .sh (.int (cols : Int)), .sh (.int H), .sh (pgP rs H), .ow (nP []), .un, .un]) (by simp [nP]), seq_nx (ρ1 := E [] 0 .un) (by simp [E])]
  refine run_ex (env := [.sh (rowsP rs), .sh (.int (cols : Int)), .sh (.int H), .un, .un, .un, .un]) ?_
  unfold den_filled_columns
  rw [pre]
  cases hg : grd (wth rs) rs.length H rs.length 0 with
  | none =>
    obtain ⟨ρ, h6⟩ := k2 fun r hr => by rw [hg] at hr; cases hr
    exact ⟨ρ, by rw [seq_rt (hW.trans h6)]; rfl⟩
  | some r =>
    have hch := grd_chn _ _ _ (by omega) (by omega) hg
    have hrl := (chn_le _ _ _ hch).1
    by_cases hc : r.length ≤ cols
    · obtain ⟨x', h6⟩ := k1 r hg (by simpa using hc)
      rw [seq_nx (hW.trans h6)]
      unfold gresC
      simp only [hc, if_true]
      exact ⟨_, by simp [E]; rfl⟩
    · obtain ⟨ρ, h6⟩ := k2 fun r' hr => by rw [hg] at hr; cases hr; simp; omega
      unfold gresC
      simp only [hc, if_false]
      exact ⟨ρ, by rw [seq_rt (hW.trans h6)]⟩
end PL.K95

set_option Elab.async false
set_option linter.all false
set_option maxRecDepth 100000
set_option maxHeartbeats 4000000
namespace PL.K95
open PySem PySem.Spec L2 PL
set_option autoImplicit false
/-! ### the order of data -/
abbrev lexI := PyProof.Rows.lexLt PyProof.Rows.itemOrd
theorem lexI_self (x : Int ⊕ List Nat) (l m : List (Int ⊕ List Nat)) : lexI (x :: l) (x :: m) = lexI l m := PyProof.Rows.lex_self (O := PyProof.Rows.itemOrd) x l m
theorem lexI_int {a b : Int} (h : a ≠ b) (l m : List (Int ⊕ List Nat)) : lexI (.inl a :: l) (.inl b :: m) = decide (a < b) := by
  have := PyProof.Rows.lex_diff (O := PyProof.Rows.itemOrd) (x := .inl a) (y := .inl b) (r := l) (t := m) (fun e => h (by cases e; rfl))
  exact this
theorem lexI_irr : ∀ l : List (Int ⊕ List Nat), lexI l l = false
  | [] => rfl
  | x :: l => by rw [lexI_self, lexI_irr l]
def rP (r : List Nat) : PV := .lst (r.map fun e : Nat => PV.int (2 * (e : Int) - 1))
theorem toks_row (e : Nat) (r : List Nat) : PySem.W.keyToksAll (toDs ((e :: r).map fun e : Nat => PV.int (2 * (e : Int) - 1))) = .inl 1 :: .inl (2 * (e : Int) - 1) :: PySem.W.keyToksAll (toDs (r.map fun e : Nat => PV.int (2 * (e : Int) - 1))) := by
  show PySem.W.keyToksAll (_ :: _) = _
  rw [PySem.W.keyToksAll]
  rfl
theorem toks_nil : PySem.W.keyToksAll (toDs []) = [.inl 0] := by
  show PySem.W.keyToksAll [] = _
  rw [PySem.W.keyToksAll]
theorem row_lt (l : List (Int ⊕ List Nat)) : ∀ r r' : List Nat, lexI (PySem.W.keyToksAll (toDs (r.map fun e : Nat => PV.int (2 * (e : Int) - 1))) ++ l) (PySem.W.keyToksAll (toDs (r'.map fun e : Nat => PV.int (2 * (e : Int) - 1))) ++ l) = true ↔ ¬ lel r' r
  | [], [] => by
    rw [lexI_irr]
    exact ⟨fun h => (nomatch h), fun h => (h trivial).elim⟩
  | [], b :: m => by
    rw [toks_row, List.map_nil, toks_nil]
    show lexI (.inl 0 :: l) (.inl 1 :: _) = true ↔ _
    rw [lexI_int (by omega)]
    exact ⟨fun _ h => h, fun _ => rfl⟩
  | a :: k, [] => by
    rw [toks_row, List.map_nil, toks_nil]
    show lexI (.inl 1 :: _) (.inl 0 :: l) = true ↔ _
    rw [lexI_int (by omega)]
    exact ⟨fun h => (nomatch h), fun h => (h trivial).elim⟩
  | a :: k, b :: m => by
    rw [toks_row, toks_row]
    show lexI (.inl 1 :: .inl _ :: (_ ++ l)) (.inl 1 :: .inl _ :: (_ ++ l)) = true ↔ ¬ (b < a ∨ (b = a ∧ lel m k))
    rw [lexI_self]
    by_cases h : a = b
    · subst h
      rw [lexI_self, row_lt l k m]
      constructor
      · rintro h1 (h2 | ⟨_, h2⟩)
        · omega
        · exact h1 h2
      · exact fun h1 h2 => h1 (.inr ⟨rfl, h2⟩)
    · rw [lexI_int (by omega), decide_eq_true_eq]
      constructor
      · rintro h1 (h2 | ⟨h2, _⟩) <;> omega
      · intro h1
        have : ¬ b < a := fun z => h1 (.inl z)
        omega
def vP (v : Int × List Nat) : PV := .tup [.int v.1, rP v.2]
theorem vP_lt (a b : Int × List Nat) : pvLt (vP a) (vP b) = true ↔ ¬ Le b a := by
  have e : ∀ v : Int × List Nat, PySem.W.keyToks (vP v).toD = .inl 1 :: .inl v.1 :: .inl 1 :: (PySem.W.keyToksAll (toDs (v.2.map fun e : Nat => PV.int (2 * (e : Int) - 1))) ++ [.inl 0]) := fun v => by
    show PySem.W.keyToks (.tuple [.int v.1, .list (toDs _)]) = _
    rw [PySem.W.keyToks, PySem.W.keyToksAll, PySem.W.keyToksAll, PySem.W.keyToksAll, PySem.W.keyToks, PySem.W.keyToks]
    rfl
  unfold pvLt PySem.W.dataLt
  rw [e, e]
  show lexI (.inl 1 :: _) (.inl 1 :: _) = true ↔ _
  rw [lexI_self]
  unfold Le
  by_cases h : a.1 = b.1
  · rw [h, lexI_self, lexI_self, row_lt]
    constructor
    · rintro h1 (h2 | ⟨_, h2⟩)
      · omega
      · exact h1 h2
    · exact fun h1 h2 => h1 (.inr ⟨rfl, h2⟩)
  · rw [lexI_int h, decide_eq_true_eq]
    constructor
    · rintro h1 (h2 | ⟨h2, _⟩) <;> omega
    · intro h1
      have : ¬ b.1 < a.1 := fun z => h1 (.inl z)
      omega
theorem int_lt (a b : Int) : pvLt (.int a) (.int b) = true ↔ ¬ b ≤ a := by
  show PySem.W.dataLt (.int a) (.int b) = true ↔ _
  rw [PySem.W.dataLt_int, decide_eq_true_eq]
  omega
theorem minP_spec {α : Type} (f : α → PV) (le : α → α → Prop) (hlt : ∀ a b, pvLt (f a) (f b) = true ↔ ¬ le b a) (tot : ∀ a b, le a b ∨ le b a) (tr : ∀ a b c, le a b → le b c → le a c) : ∀ (l : List α) (x : α), ∃ y ∈ x :: l, minP (f x) (l.map f) = f y ∧ ∀ z ∈ x :: l, le y z
  | [], x => ⟨x, by simp, rfl, fun z hz => by simp at hz; subst hz; exact (tot z z).elim id id⟩
  | a :: l, x => by
    have e : minP (f x) ((a :: l).map f) = minP (if pvLt (f a) (f x) then f a else f x) (l.map f) := rfl
    rw [e]
    by_cases h : pvLt (f a) (f x) = true
    · obtain ⟨y, h1, h2, h3⟩ := minP_spec f le hlt tot tr l a
      rw [if_pos h]
      have hax : le a x := ((tot a x).resolve_right ((hlt a x).mp h))
      refine ⟨y, List.mem_cons_of_mem _ h1, h2, fun z hz => ?_⟩
      rcases List.mem_cons.mp hz with rfl | hz
      · exact tr _ _ _ (h3 a (by simp)) hax
      · exact h3 z hz
    · obtain ⟨y, h1, h2, h3⟩ := minP_spec f le hlt tot tr l x
      rw [if_neg h]
      have hxa : le x a := Classical.byContradiction fun z => h ((hlt a x).mpr z)
      refine ⟨y, ?_, h2, fun z hz => ?_⟩
      · rcases List.mem_cons.mp h1 with rfl | h1
        · simp
        · simp [h1]
      · rcases List.mem_cons.mp hz with rfl | hz
        · exact h3 z (by simp)
        rcases List.mem_cons.mp hz with rfl | hz
        · exact tr _ _ _ (h3 x (by simp)) hxa
        · exact h3 z (by simp [hz])
theorem maxP_spec {α : Type} (f : α → PV) (le : α → α → Prop) (hlt : ∀ a b, pvLt (f a) (f b) = true ↔ ¬ le b a) (tot : ∀ a b, le a b ∨ le b a) (tr : ∀ a b c, le a b → le b c → le a c) : ∀ (l : List α) (x : α), ∃ y ∈ x :: l, maxP (f x) (l.map f) = f y ∧ ∀ z ∈ x :: l, le z y
  | [], x => ⟨x, by simp, rfl, fun z hz => by simp at hz; subst hz; exact (tot z z).elim id id⟩
  | a :: l, x => by
    have e : maxP (f x) ((a :: l).map f) = maxP (if pvLt (f x) (f a) then f a else f x) (l.map f) := rfl
    rw [e]
    by_cases h : pvLt (f x) (f a) = true
    · obtain ⟨y, h1, h2, h3⟩ := maxP_spec f le hlt tot tr l a
      rw [if_pos h]
      have hax : le x a := ((tot a x).resolve_left ((hlt x a).mp h))
      refine ⟨y, List.mem_cons_of_mem _ h1, h2, fun z hz => ?_⟩
      rcases List.mem_cons.mp hz with rfl | hz
      · exact tr _ _ _ hax (h3 a (by simp))
      · exact h3 z hz
    · obtain ⟨y, h1, h2, h3⟩ := maxP_spec f le hlt tot tr l x
      rw [if_neg h]
      have hxa : le a x := Classical.byContradiction fun z => h ((hlt x a).mpr z)
      refine ⟨y, ?_, h2, fun z hz => ?_⟩
      · rcases List.mem_cons.mp h1 with rfl | h1
        · simp
        · simp [h1]
      · rcases List.mem_cons.mp hz with rfl | hz
        · exact h3 z (by simp)
        rcases List.mem_cons.mp hz with rfl | hz
        · exact tr _ _ _ hxa (h3 x (by simp))
        · exact h3 z (by simp [hz])
/-- the least of whole numbers -/
theorem min_ints {l : List Int} (h : l ≠ []) : ∃ m ∈ l, gMinD [.lst (l.map .int)] = some (.int m) ∧ ∀ z ∈ l, m ≤ z := by
  cases l with
  | nil => exact absurd rfl h
  | cons x l =>
    obtain ⟨y, h1, h2, h3⟩ := minP_spec PV.int (fun a b => a ≤ b) int_lt (fun a b => Int.le_total a b) (fun a b c => Int.le_trans) l x
    refine ⟨y, h1, ?_, h3⟩
    have := minD_is (t := .int) (by decide) (p := .int x) (ps := l.map .int) (fun q hq => by
      rcases List.mem_cons.mp hq with rfl | hq
      · exact is_int _
      · obtain ⟨z, _, rfl⟩ := List.mem_map.mp hq
        exact is_int _)
    rw [List.map_cons, this, h2]
theorem max_ints {l : List Int} (h : l ≠ []) : ∃ m ∈ l, gMaxD [.lst (l.map .int)] = some (.int m) ∧ ∀ z ∈ l, z ≤ m := by
  cases l with
  | nil => exact absurd rfl h
  | cons x l =>
    obtain ⟨y, h1, h2, h3⟩ := maxP_spec PV.int (fun a b => a ≤ b) int_lt (fun a b => Int.le_total a b) (fun a b c => Int.le_trans) l x
    refine ⟨y, h1, ?_, h3⟩
    have := maxD_is (t := .int) (by decide) (p := .int x) (ps := l.map .int) (fun q hq => by
      rcases List.mem_cons.mp hq with rfl | hq
      · exact is_int _
      · obtain ⟨z, _, rfl⟩ := List.mem_map.mp hq
        exact is_int _)
    rw [List.map_cons, this, h2]
/-! ### the greedy of the lines -/
theorem able_range {w : Nat → Nat → Int} {n : Nat} {H : Int} {s : Nat} (hs : s ≤ n) : able w n H s = ((List.range n).filter fun k => decide (s ≤ k) && decide (w s (k + 1) ≤ H)).map (· + 1) := by
  have e1 : List.range n = List.range s ++ List.range' s (n - s) := by
    have := List.range'_append_1 (s := 0) (m := s) (n := n - s)
    rw [Nat.zero_add] at this
    rw [List.range_eq_range', List.range_eq_range', this, show s + (n - s) = n by omega]
  have e2 : (List.range s).filter (fun k => decide (s ≤ k) && decide (w s (k + 1) ≤ H)) = [] := List.filter_eq_nil_iff.mpr fun k hk => by
    have := List.mem_range.mp hk
    simp; omega
  have e3 : (List.range' s (n - s)).filter (fun k => decide (s ≤ k) && decide (w s (k + 1) ≤ H)) = (List.range' s (n - s)).filter fun k => decide (w s (k + 1) ≤ H) := List.filter_congr fun k hk => by
    have := List.mem_range'_1.mp hk
    simp; omega
  rw [e1, List.filter_append, e2, List.nil_append, e3]
  unfold able
  rw [show List.range' (s + 1) (n - s) = (List.range' s (n - s)).map (· + 1) by rw [show (fun x : Nat => x + 1) = (fun x => 1 + x) from funext fun x => Nat.add_comm x 1, List.map_add_range', Nat.add_comm], List.filter_map]
  rfl
theorem good_ws {Hn : Nat} (h : 1 ≤ Hn) : ∀ w ∈ [Hn], 1 ≤ w := fun w hw => by simp at hw; omega
theorem F_width_one (Hn k : Nat) : F_width_at [wsP [Hn], .int (k : Int)] = .ok (.int (Hn : Int)) .non := by
  have hl : gLenN [wsP [Hn]] = some (.int 1) := rfl
  have hx : gIx (wsP [Hn]) (.int 0) = some (.int (Hn : Int)) := rfl
  have hm : min (k : Int) (1 - 1) = 0 := by omega
  generalize (k : Int) = z at *
  generalize wsP [Hn] = W at *
  refine run_rt (env := [.sh W, .sh (.int z)]) (ρ := [.sh W, .sh (.int z)]) ?_
  have hmm : gMin2 [.int z, .int 0] = some (.int 0) := by
    have : ¬ z < 0 → True := fun _ => trivial
    simp [gMin2] at *
    omega
  simp [den_width_at, hl, hx, hmm, -ap_lenN]
end PL.K95

set_option Elab.async false
set_option linter.all false
set_option maxRecDepth 100000
set_option maxHeartbeats 4000000
namespace PL.K95
open PySem PySem.Spec L2 PL
set_option autoImplicit false
/-! ### filled_ragged -/
def knP (rs : List Rw) : PV := .lst ((List.range rs.length).map fun k : Nat => PV.int (2 * ((k + 1 : Nat) : Int) - 1))
theorem breaks_ok {rs : List Rw} (h : Rok rs) : F_all_breaks [itsP (its rs)] = .ok (knP rs) .non := by
  rw [F_all_breaks_ok _ (its_good h).len, its_brks h.ne]
  unfold nP knP
  rw [List.map_map]
  congr 3
  funext k
  show PV.int ((2 * k + 1 : Nat) : Int) = _
  congr 1
  omega
def greP (o : Option (List Nat)) : PV := match o with
  | none => .non
  | some r => rP r
def ablP (rs : List Rw) (H : Int) (s : Nat) : PV := rP (able (wth rs) rs.length H s)
theorem abl_last {rs : List Rw} {H : Int} {s e : Nat} (h : (able (wth rs) rs.length H s).getLast? = some e) : gIx (ablP rs H s) (.int (-1)) = some (.int (2 * (e : Int) - 1)) ∧ truth (ablP rs H s) = some true := by
  obtain ⟨m, hm⟩ := last_snoc h
  unfold ablP rP
  rw [hm, List.map_append]
  exact ⟨ix_lastG _ _, by cases m <;> rfl⟩
theorem abl_none {rs : List Rw} {H : Int} {s : Nat} (h : (able (wth rs) rs.length H s).getLast? = none) : truth (ablP rs H s) = some false := by
  rw [List.getLast?_eq_none_iff] at h
  unfold ablP
  rw [h]
  rfl
theorem app_rP {l : List Nat} {i : Nat} (h : l.length ≤ 100000) : gAppend (rP l) [.int (2 * (i : Int) - 1)] = some (rP (l ++ [i]), .non) := by
  unfold rP
  rw [ap_app, if_pos (by rw [List.length_map, sizeLine_eq]; omega)]
  simp
theorem isN_opt (n : Bool) (o : Option Int) : gIsN n (optI o) .non = some (.bl (n == o.isSome)) := by cases o <;> cases n <;> rfl
theorem len_its {rs : List Rw} (h : Rok rs) : gLenN [itsP (its rs)] = some (.int (2 * (rs.length : Int))) := by
  have hl := its_len h.ne
  have := h.len
  have e : gLenN [itsP (its rs)] = some (.int ((its rs).length : Nat)) := by simp [itsP, show (its rs).length ≤ sizeLine from szn (by omega)]
  rw [e, hl]
  congr 2
theorem fr_lc {rs : List Rw} (h : Rok rs) {Hn : Nat} {s : Nat} (hs : s ≤ rs.length) (acc : List Nat) (s6 : Sl) :
    dLc [7] (iSeq (dVar 2)) (gName 7) T_filled_ragged_2 E_filled_ragged_2 [.sh (itsP (its rs)), .sh (wsP [Hn]), .sh (knP rs), .ow (rP acc), .sh (.int (2 * (s : Int) - 1)), .sh (.int (Hn : Int)), s6, .un] = .ok (ablP rs (Hn : Int) s) [.sh (itsP (its rs)), .sh (wsP [Hn]), .sh (knP rs), .ow (rP acc), .sh (.int (2 * (s : Int) - 1)), .sh (.int (Hn : Int)), s6, .un] := by
  have L := dLc_okF (T := T_filled_ragged_2) (E := E_filled_ragged_2) (i := 7) (di := iSeq (dVar 2)) (ρ := [.sh (itsP (its rs)), .sh (wsP [Hn]), .sh (knP rs), .ow (rP acc), .sh (.int (2 * (s : Int) - 1)), .sh (.int (Hn : Int)), s6, .un])
    (fun k : Nat => PV.int (2 * ((k + 1 : Nat) : Int) - 1)) (fun k : Nat => PV.int (2 * ((k + 1 : Nat) : Int) - 1)) (fun k => decide (s ≤ k) && decide (wth rs s (k + 1) ≤ (Hn : Int))) (List.range rs.length) (by simp [knP]) rfl (by have := h.len; simp; omega)
    (fun k hk => by
      have hk := List.mem_range.mp hk
      by_cases hsk : s ≤ k
      · have hF := F_left_over_ok h (s := s) (e := k + 1) (by omega) (by omega) (Hn : Int)
        have hgt : 2 * (s : Int) - 1 < 2 * ((k + 1 : Nat) : Int) - 1 := by omega
        have hi := isN_opt true (leftO rs s (k + 1) (Hn : Int))
        have hd : (true == (leftO rs s (k + 1) (Hn : Int)).isSome) = decide (wth rs s (k + 1) ≤ (Hn : Int)) := by
          unfold leftO
          by_cases hw : wth rs s (k + 1) ≤ (Hn : Int) <;> simp [hw]
        rw [hd] at hi
        rw [decide_eq_true hsk, Bool.true_and]
        generalize decide (wth rs s (k + 1) ≤ (Hn : Int)) = b at *
        generalize optI (leftO rs s (k + 1) (Hn : Int)) = q at *
        generalize 2 * (s : Int) - 1 = z at *
        generalize 2 * ((k + 1 : Nat) : Int) - 1 = y at *
        cases s6 <;> simp [T_filled_ragged_2, Sl.lock, hF, hgt, hi]
      · have hgt : ¬ 2 * (s : Int) - 1 < 2 * ((k + 1 : Nat) : Int) - 1 := by omega
        rw [decide_eq_false hsk, Bool.false_and]
        generalize 2 * (s : Int) - 1 = z at *
        generalize 2 * ((k + 1 : Nat) : Int) - 1 = y at *
        cases s6 <;> simp [T_filled_ragged_2, Sl.lock, hgt])
    (fun k hk _ => by cases s6 <;> simp [E_filled_ragged_2, Sl.lock])
  rw [L]
  unfold ablP rP
  rw [able_range hs, List.map_map]
  rfl
theorem F_filled_ragged_ok {rs : List Rw} (h : Rok rs) {Hn : Nat} (hH : 1 ≤ Hn) : F_filled_ragged [itsP (its rs), wsP [Hn]] = .ok (greP (grd (wth rs) rs.length (Hn : Int) rs.length 0)) .non := by
  have hlen := h.len
  have hN := len_its h
  have hBk := breaks_ok h
  have hCk := F_check_paragraph_ok (its_good h) (ws := [Hn]) (by simp) (good_ws hH) (by simp)
  let E : List Nat → Nat → Sl × Sl → Env := fun acc s x => [.sh (itsP (its rs)), .sh (wsP [Hn]), .sh (knP rs), .ow (rP acc), .sh (.int (2 * (s : Int) - 1)), x.1, x.2, .un]
  have hB : ∀ acc s (x : Sl × Sl) (r : DenS), acc.length ≤ 8 → s ≤ rs.length → (sSeq (sSet 5 (dCall F_width_at (dCons (dVar 1) (dCons (d1v gLen 3) dNil)))) (sSeq (sSet 6 (dLc [7] (iSeq (dVar 2)) (gName 7) T_filled_ragged_2 E_filled_ragged_2)) r)) (E acc s x) = r [.sh (itsP (its rs)), .sh (wsP [Hn]), .sh (knP rs), .ow (rP acc), .sh (.int (2 * (s : Int) - 1)), .sh (.int (Hn : Int)), .sh (ablP rs (Hn : Int) s), .un] := fun acc s x r ha hs => by
    have hL : gLen (rP acc) = some (.int (acc.length : Nat)) := by simp [rP, show acc.length ≤ sizeLine from szn (by omega)]
    have hW := F_width_one Hn acc.length
    rw [seq_nx (ρ1 := [.sh (itsP (its rs)), .sh (wsP [Hn]), .sh (knP rs), .ow (rP acc), .sh (.int (2 * (s : Int) - 1)), .sh (.int (Hn : Int)), x.2, .un]) (by
      simp only [E]
      generalize 2 * (s : Int) - 1 = z at *
      generalize ((acc.length : Nat) : Int) = y at *
      generalize (Hn : Int) = u at *
      simp [hL, hW]),
      seq_nx (sSet_ok (fr_lc h hs acc x.2))]
    rfl
  obtain ⟨k1, k2⟩ := wh_greedy (w := wth rs) (n := rs.length) (H := (Hn : Int)) (dc := bVal (d2 gNe (dVar 4) (dSub (dN gLenN (dCons (dVar 0) dNil)) (dC (.int 1))))) (db := B_filled_ragged_1) E 1000
    (fun acc s x hs => by
      have hs : ¬ (2 * (s : Int) - 1 = 2 * (rs.length : Int) - 1) := by omega
      simp only [E]
      generalize 2 * (s : Int) - 1 = z at *
      generalize 2 * ((rs.length : Nat) : Int) = N at *
      simp [hN, hs, -ap_lenN])
    (fun acc x => by
      simp only [E]
      generalize 2 * ((rs.length : Nat) : Int) = N at *
      simp [hN, -ap_lenN])
    (fun acc s x hs ha hc => by
      rcases hc with hc | hc
      · omega
      · refine ⟨[.sh (itsP (its rs)), .sh (wsP [Hn]), .sh (knP rs), .ow (rP acc), .sh (.int (2 * (s : Int) - 1)), .sh (.int (Hn : Int)), .sh (ablP rs (Hn : Int) s), .un], ?_⟩
        unfold B_filled_ragged_1
        rw [hB acc s x _ (by omega) (by omega), seq_rt (p := .non) (ρ1 := [.sh (itsP (its rs)), .sh (wsP [Hn]), .sh (knP rs), .ow (rP acc), .sh (.int (2 * (s : Int) - 1)), .sh (.int (Hn : Int)), .sh (ablP rs (Hn : Int) s), .un]) (by simp [abl_none hc])])
    (fun acc s x e hs ha hc he => by
      obtain ⟨l1, l2⟩ := abl_last he
      have ap := app_rP (l := acc) (i := e) (by omega)
      have ht : isT "list" (rP acc) = true := rfl
      refine ⟨(.sh (.int (Hn : Int)), .sh (ablP rs (Hn : Int) s)), ?_⟩
      unfold B_filled_ragged_1
      rw [hB acc s x _ (by omega) (by omega)]
      simp only [E]
      generalize ablP rs (Hn : Int) s = L at *
      generalize 2 * (s : Int) - 1 = z at *
      generalize 2 * (e : Int) - 1 = y at *
      generalize (Hn : Int) = u at *
      simp [l1, l2, ap, ht])
    rs.length (2 * rs.length + 3) 0 [] (.un, .un) (by omega) (by omega) (by omega) (by simp) (by simp)
  have hmu : muD 0 4 (E [] 0 (.un, .un)) = 2 * rs.length + 3 := by
    show ((((its rs).map itP).length : Nat) - (2 * ((0 : Nat) : Int) - 1)).toNat + 2 = _
    rw [List.length_map, its_len h.ne]; omega
  have hW : sWhile (muD 0 4) (bVal (d2 gNe (dVar 4) (dSub (dN gLenN (dCons (dVar 0) dNil)) (dC (.int 1))))) B_filled_ragged_1 (E [] 0 (.un, .un)) = dWhile (bVal (d2 gNe (dVar 4) (dSub (dN gLenN (dCons (dVar 0) dNil)) (dC (.int 1))))) B_filled_ragged_1 (2 * rs.length + 3) (E [] 0 (.un, .un)) := by
    unfold sWhile; rw [hmu]
  have pre : ∀ r : DenS, (sSeq (sExpr (dCall F_check_paragraph (dCons (dVar 0) (dCons (dVar 1) dNil))))
    (sSeq (sSet 2 (dCall F_all_breaks (dCons (dVar 0) dNil)))
    (sSeq (sSetF 3 (dLst dNil))
    (sSeq (sSet 4 (dNeg (dC (.int 1)))) r)))) [.sh (itsP (its rs)), .sh (wsP [Hn]), .un, .un, .un, .un, .un, .un] = r (E [] 0 (.un, .un)) := fun r => by
    rw [seq_nx (ρ1 := [.sh (itsP (its rs)), .sh (wsP [Hn]), .un, .un, .un, .un, .un, .un]) (by simp [hCk]),
      seq_nx (ρ1 := [.sh (itsP (its rs)), .sh (wsP [Hn]), .sh (knP rs), .un, .un, .un, .un, .un]) (by simp [hBk]),
      seq_nx (ρ1 := [.sh (itsP (its rs)), .sh (wsP [Hn]), .sh (knP rs), .ow (rP []), .un, .un, .un, .un]) (by simp [rP]), seq_nx (ρ1 := E [] 0 (.un, .un)) (by simp [E])]
  refine run_ex (env := [.sh (itsP (its rs)), .sh (wsP [Hn]), .un, .un, .un, .un, .un, .un]) ?_
  unfold den_filled_ragged
  rw [pre]
  cases hg : grd (wth rs) rs.length (Hn : Int) rs.length 0 with
  | none =>
    obtain ⟨ρ, h6⟩ := k2 fun r hr => by rw [hg] at hr; cases hr
    exact ⟨ρ, by rw [seq_rt (hW.trans h6)]; rfl⟩
  | some r =>
    have hch := grd_chn _ _ _ (by omega) (by omega) hg
    have hrl := (chn_le _ _ _ hch).1
    obtain ⟨x', h6⟩ := k1 r hg (by simp; omega)
    rw [seq_nx (hW.trans h6)]
    exact ⟨_, by simp [E, greP]; rfl⟩
end PL.K95

set_option Elab.async false
set_option linter.all false
set_option maxRecDepth 100000
set_option maxHeartbeats 4000000
namespace PL.K95
open PySem PySem.Spec L2 PL
set_option autoImplicit false
/-! ### least_lines -/
def mkP (e : Nat) : PV := .int (2 * (e : Int) - 1)
theorem kEq_mk (a b : Nat) : kEq (mkP a) (mkP b) = decide (a = b) := kEq_comp (kP := PV.int) kEq_int (f := fun e : Nat => 2 * (e : Int) - 1) (fun a b h => by omega) a b
theorem good_mk (e : Nat) : kGood false (mkP e) = true := rfl
abbrev MD := List (Nat × Nat)
def mnP (D : MD) : PV := dA false mkP (fun m : Nat => PV.int (m : Int)) D
section
variable (w : Nat → Nat → Int) (n : Nat) (H : Int)
structure LInv (D : MD) (k : Nat) : Prop where
  nd : (D.map (·.1)).Nodup
  at_ : ∀ x ∈ D, x.1 ≤ k ∧ ∃ r, Chn w n H 0 x.1 r ∧ r.length = x.2
  low : ∀ e, e ≤ k → ∀ r, Chn w n H 0 e r → ∃ m, (e, m) ∈ D ∧ m ≤ r.length
variable {w n H}
theorem LInv.zero : LInv w n H [(0, 0)] 0 := by
  refine ⟨by simp, fun x hx => ?_, fun e he r hr => ?_⟩
  · rw [List.mem_singleton] at hx
    subst hx
    exact ⟨Nat.le_refl _, [], rfl, rfl⟩
  · have := chn_le r 0 e hr
    have : e = 0 := by omega
    subst this
    exact ⟨0, by simp, by omega⟩
theorem LInv.len {D : MD} {k : Nat} (i : LInv w n H D k) (hk : k ≤ 8) : D.length ≤ 9 := by
  have := nodup_map_le (l := D.map (·.1)) (f := fun e => e) (n := 9) i.nd (fun x _ y _ e => e) (fun x hx => by
    obtain ⟨y, h1, rfl⟩ := List.mem_map.mp hx
    have := (i.at_ y h1).1
    omega)
  simpa using this
theorem LInv.skip {D : MD} {k : Nat} (i : LInv w n H D k) (hn : ∀ x ∈ D, ¬ stp1 w n H x.1 (k + 1)) : LInv w n H D (k + 1) := by
  refine ⟨i.nd, fun x hx => ⟨by have := (i.at_ x hx).1; omega, (i.at_ x hx).2⟩, fun e he r hr => ?_⟩
  by_cases h : e ≤ k
  · exact i.low e h r hr
  · have : e = k + 1 := by omega
    subst this
    cases hq : r.getLast? with
    | none =>
      rw [List.getLast?_eq_none_iff] at hq
      subst hq
      have hr : 0 = k + 1 := hr
      omega
    | some y =>
      obtain ⟨r', rfl⟩ := last_snoc hq
      obtain ⟨u, h1, h2, h3⟩ := chn_unsnoc r' 0 hr
      subst h3
      have h4 := h2.1
      obtain ⟨m, h5, _⟩ := i.low u (by omega) r' h1
      exact (hn (u, m) h5 h2).elim
theorem LInv.put {D : MD} {k : Nat} (i : LInv w n H D k) {v : Nat} (h1 : ∃ x ∈ D, stp1 w n H x.1 (k + 1) ∧ v = x.2 + 1) (h2 : ∀ x ∈ D, stp1 w n H x.1 (k + 1) → v ≤ x.2 + 1) : LInv w n H (putA D (k + 1) v) (k + 1) := by
  have hno : (k + 1) ∉ D.map (·.1) := fun h => by
    obtain ⟨y, a, b⟩ := List.mem_map.mp h
    have := (i.at_ y a).1
    omega
  have hne : (D.any fun kv => decide (kv.1 = k + 1)) = false := by
    rw [List.any_eq_false]
    intro x hx
    have := (i.at_ x hx).1
    simp; omega
  have hput : putA D (k + 1) v = D ++ [(k + 1, v)] := by unfold putA; rw [hne]; rfl
  refine ⟨putA_nodup i.nd, fun x hx => ?_, fun e he r hr => ?_⟩
  · rcases mem_putA hx with rfl | hx
    · obtain ⟨y, a, b, rfl⟩ := h1
      obtain ⟨_, r, c, d⟩ := i.at_ y a
      exact ⟨Nat.le_refl _, r ++ [k + 1], chn_snoc r 0 y.1 c b, by simp [d]⟩
    · exact ⟨by have := (i.at_ x hx).1; omega, (i.at_ x hx).2⟩
  · rw [hput]
    by_cases h : e ≤ k
    · obtain ⟨m, a, b⟩ := i.low e h r hr
      exact ⟨m, List.mem_append_left _ a, b⟩
    · have : e = k + 1 := by omega
      subst this
      refine ⟨v, by simp, ?_⟩
      cases hq : r.getLast? with
      | none =>
        rw [List.getLast?_eq_none_iff] at hq
        subst hq
        have hr : 0 = k + 1 := hr
        omega
      | some y =>
        obtain ⟨r', rfl⟩ := last_snoc hq
        obtain ⟨u, a, b, c⟩ := chn_unsnoc r' 0 hr
        subst c
        have h4 := b.1
        obtain ⟨m, h5, h6⟩ := i.low u (by omega) r' a
        have h7 := h2 (u, m) h5 b
        have h7 : v ≤ m + 1 := h7
        simp; omega
end
def llE (rs : List Rw) (Hn : Nat) (D : MD) (s4 s5 : Sl) : Env := [.sh (itsP (its rs)), .sh (wsP [Hn]), .sh (knP rs), .ow (mnP D), s4, s5, .un]
theorem ll_lc {rs : List Rw} (h : Rok rs) {Hn : Nat} {k : Nat} (hk : k < rs.length) {D : MD} (i : LInv (wth rs) rs.length (Hn : Int) D k) (s5 : Sl) :
    dPeekL (dLcD [6] 3 (gName 6) T_least_lines_2 E_least_lines_2) (llE rs Hn D (.sh (mkP (k + 1))) s5) = .ok (.lst ((D.filter fun x => decide (wth rs x.1 (k + 1) ≤ (Hn : Int))).map fun x => PV.int ((x.2 : Int) + 1))) (llE rs Hn D (.sh (mkP (k + 1))) s5) := by
  have hlen := i.len (by have := h.len; omega)
  have L := dLcD_okF (T := T_least_lines_2) (E := E_least_lines_2) (i := 3) (j := 6) (t' := false) (ρ := frzE (llE rs Hn D (.sh (mkP (k + 1))) s5)) (fun x : Nat × Nat => mkP x.1) (fun x : Nat × Nat => PV.int ((x.2 : Int) + 1)) (fun x => decide (wth rs x.1 (k + 1) ≤ (Hn : Int))) D (vs := D.map fun x => PV.int (x.2 : Int)) (ρ1 := frzE (llE rs Hn D (.sh (mkP (k + 1))) s5)) rfl rfl (by omega)
    (fun x hx => by
      have hxk := (i.at_ x hx).1
      have hF := F_left_over_ok h (s := x.1) (e := k + 1) (by omega) (by omega) (Hn : Int)
      have hlt : 2 * (x.1 : Int) - 1 < 2 * ((k + 1 : Nat) : Int) - 1 := by omega
      have hi := isN_opt true (leftO rs x.1 (k + 1) (Hn : Int))
      have hd : (true == (leftO rs x.1 (k + 1) (Hn : Int)).isSome) = decide (wth rs x.1 (k + 1) ≤ (Hn : Int)) := by
        unfold leftO
        by_cases hw : wth rs x.1 (k + 1) ≤ (Hn : Int) <;> simp [hw]
      rw [hd] at hi
      have hx0 : gIx (wsP [Hn]) (.int 0) = some (.int (Hn : Int)) := rfl
      unfold llE mkP
      generalize decide (wth rs x.1 (k + 1) ≤ (Hn : Int)) = b at *
      generalize optI (leftO rs x.1 (k + 1) (Hn : Int)) = q at *
      generalize 2 * ((x.1 : Nat) : Int) - 1 = z at *
      generalize 2 * ((k + 1 : Nat) : Int) - 1 = y at *
      generalize (Hn : Int) = u at *
      cases s5 <;> simp [T_least_lines_2, frzE, Sl.frz, Sl.lock, hF, hlt, hi, hx0])
    (fun x hx _ => by
      have g1 := get_A (t := false) (vP := fun m : Nat => PV.int (m : Int)) kEq_mk x.1 (good_mk _) D
      rw [look_of_mem i.nd hx] at g1
      have g1 : gDG (mnP D) (mkP x.1) = some (.int (x.2 : Int)) := g1
      unfold llE
      generalize mnP D = M at *
      generalize mkP x.1 = y at *
      generalize ((x.2 : Nat) : Int) = z at *
      cases s5 <;> simp [E_least_lines_2, frzE, Sl.frz, Sl.lock, g1])
  unfold dPeekL
  rw [L]
  have : ((D.filter fun x => decide (wth rs x.1 (k + 1) ≤ (Hn : Int))).map fun x => PV.int ((x.2 : Int) + 1)).all PV.sc = true := by
    rw [List.all_eq_true]
    intro p hp
    obtain ⟨x, _, rfl⟩ := List.mem_map.mp hp
    rfl
  simp only [this, if_true]
theorem ll_one {rs : List Rw} (h : Rok rs) {Hn : Nat} {k : Nat} (hk : k < rs.length) {D : MD} (i : LInv (wth rs) rs.length (Hn : Int) D k) (s5 : Sl) :
    ∃ D' s5', B_least_lines_1 (llE rs Hn D (.sh (mkP (k + 1))) s5) = .nx (llE rs Hn D' (.sh (mkP (k + 1))) s5') ∧ LInv (wth rs) rs.length (Hn : Int) D' (k + 1) := by
  have hlen := i.len (by have := h.len; omega)
  have L := ll_lc h hk i s5
  have hst : ∀ x ∈ D, (stp1 (wth rs) rs.length (Hn : Int) x.1 (k + 1) ↔ wth rs x.1 (k + 1) ≤ (Hn : Int)) := fun x hx => by
    have := (i.at_ x hx).1
    exact ⟨fun z => z.2.2, fun z => ⟨by omega, by omega, z⟩⟩
  unfold B_least_lines_1
  rw [seq_nx (sSet_ok L)]
  cases hG : D.filter fun x => decide (wth rs x.1 (k + 1) ≤ (Hn : Int)) with
  | nil =>
    refine ⟨D, .sh (.lst []), ?_, i.skip fun x hx hs => ?_⟩
    · show sIf _ _ _ [.sh (itsP (its rs)), .sh (wsP [Hn]), .sh (knP rs), .ow (mnP D), .sh (mkP (k + 1)), .sh (.lst []), .un] = _
      simp [tr_nil, llE]
    · have : x ∈ D.filter fun x => decide (wth rs x.1 (k + 1) ≤ (Hn : Int)) := List.mem_filter.mpr ⟨hx, decide_eq_true ((hst x hx).mp hs)⟩
      rw [hG] at this
      cases this
  | cons y G =>
    have hm := min_ints (l := (y :: G).map fun x => (x.2 : Int) + 1) (by simp)
    obtain ⟨m, m1, m2, m3⟩ := hm
    obtain ⟨x, x1, x2⟩ := List.mem_map.mp m1
    rw [List.map_map] at m2
    have m2 : gMinD [.lst ((y :: G).map fun x => PV.int ((x.2 : Int) + 1))] = some (.int m) := m2
    have em : m = ((x.2 + 1 : Nat) : Int) := by omega
    have pt := put_A (vP := fun m : Nat => PV.int (m : Int)) kEq_mk D (k + 1) (x.2 + 1)
    rw [← hG] at x1
    obtain ⟨x3, x4⟩ := List.mem_filter.mp x1
    refine ⟨putA D (k + 1) (x.2 + 1), .sh (.lst ((y :: G).map fun x => PV.int ((x.2 : Int) + 1))), ?_, i.put ⟨x, x3, (hst x x3).mpr (of_decide_eq_true x4), rfl⟩ fun z hz hs => ?_⟩
    · show sIf _ _ _ [.sh (itsP (its rs)), .sh (wsP [Hn]), .sh (knP rs), .ow (mnP D), .sh (mkP (k + 1)), .sh (.lst ((y :: G).map fun x => PV.int ((x.2 : Int) + 1))), .un] = _
      have tr : truth (.lst ((y :: G).map fun x => PV.int ((x.2 : Int) + 1))) = some true := rfl
      rw [em] at m2
      have hz : D.length < 100000 := by omega
      have pt : dPutQ (D.map fun kv => mkP kv.1) (D.map fun kv => PV.int (kv.2 : Int)) (mkP (k + 1)) (.int ((x.2 + 1 : Nat) : Int)) = _ := pt
      generalize PV.lst ((y :: G).map fun x => PV.int ((x.2 : Int) + 1)) = L0 at *
      generalize ((x.2 + 1 : Nat) : Int) = q at *
      have gm := good_mk (k + 1)
      generalize mkP (k + 1) = kk at *
      simp [tr, m2, mnP, dA, gm, hz, pt, llE, Sl.with]
    · have hz2 : z ∈ y :: G := by rw [← hG]; exact List.mem_filter.mpr ⟨hz, decide_eq_true ((hst z hz).mp hs)⟩
      have := m3 ((z.2 : Int) + 1) (List.mem_map.mpr ⟨z, hz2, rfl⟩)
      omega
def lenO (o : Option (List Nat)) : PV := match o with
  | none => .non
  | some r => .int (r.length : Nat)
theorem F_least_lines_ok {rs : List Rw} (h : Rok rs) {Hn : Nat} (hH : 1 ≤ Hn) : F_least_lines [itsP (its rs), wsP [Hn]] = .ok (lenO (grd (wth rs) rs.length (Hn : Int) rs.length 0)) .non := by
  have hlen := h.len
  have hN := len_its h
  have hBk := breaks_ok h
  have hCk := F_check_paragraph_ok (its_good h) (ws := [Hn]) (by simp) (good_ws hH) (by simp)
  have hWl : gLenN [wsP [Hn]] = some (.int 1) := rfl
  obtain ⟨ρ, h3, D, s4, s5, h4, i⟩ := dLoop_foldP (tgt := gName 4) (body := B_least_lines_1)
    (fun (f : List Nat) ρ => ∃ D s4 s5, ρ = llE rs Hn D s4 s5 ∧ LInv (wth rs) rs.length (Hn : Int) D f.length)
    (fun k : Nat => PV.int (2 * ((k + 1 : Nat) : Int) - 1)) (fun f e => f ++ [e]) [] (List.range rs.length)
    (fun pre e post ρ e1 hr => by
      obtain ⟨D, s4, s5, rfl, i⟩ := hr
      have e2 : pre.foldl (fun f e => f ++ [e]) [] = pre := foldl_snoc pre []
      rw [e2] at i ⊢
      have hpl : pre.length < rs.length := by
        have := congrArg List.length e1
        simp at this
        omega
      have he : e = pre.length := by
        have e3 : (List.range rs.length)[pre.length]? = some e := by rw [e1]; simp
        rw [List.getElem?_range hpl] at e3
        cases e3
        rfl
      subst he
      obtain ⟨D', s5', h6, i'⟩ := ll_one h hpl i s5
      exact ⟨_, _, rfl, .inl h6, D', _, s5', rfl, by simpa using i'⟩)
    (ρ0 := llE rs Hn [(0, 0)] .un .un) ⟨_, _, _, rfl, LInv.zero⟩
  have e2 := foldl_snoc (List.range rs.length) []
  rw [e2, List.nil_append, List.length_range] at i
  subst h4
  have hres : (lookA D rs.length).map (fun m : Nat => PV.int (m : Int)) = (match grd (wth rs) rs.length (Hn : Int) rs.length 0 with
    | none => none
    | some r => some (.int (r.length : Nat))) := by
    cases hl : lookA D rs.length with
    | none =>
      cases hg : grd (wth rs) rs.length (Hn : Int) rs.length 0 with
      | none => rfl
      | some r =>
        obtain ⟨m, m1, _⟩ := i.low rs.length (Nat.le_refl _) r (grd_chn _ _ _ (by omega) (by omega) hg)
        have := look_of_mem i.nd m1
        rw [hl] at this
        cases this
    | some m =>
      have hm := look_mem hl
      obtain ⟨_, r', c1, c2⟩ := i.at_ _ hm
      obtain ⟨r, g1, g2⟩ := grd_short (wth_wid rs).anti r' 0 0 rs.length (by omega) (by omega) (by omega) c1
      rw [g1]
      obtain ⟨m', m1, m2⟩ := i.low rs.length (Nat.le_refl _) r (grd_chn _ _ _ (by omega) (by omega) g1)
      have := look_of_mem i.nd m1
      have this : lookA D rs.length = some m' := this
      rw [hl] at this
      cases this
      have c2 : r'.length = m := c2
      show some (PV.int (m : Int)) = some (PV.int (r.length : Nat))
      rw [show m = r.length by omega]
  have hget := get2_A (t := false) (vP := fun m : Nat => PV.int (m : Int)) kEq_mk rs.length (good_mk _) D .non
  rw [hres] at hget
  have hget : gDG2 (mnP D) (.int (2 * (rs.length : Int) - 1)) .non = some (lenO (grd (wth rs) rs.length (Hn : Int) rs.length 0)) := by
    rw [show gDG2 (mnP D) (.int (2 * (rs.length : Int) - 1)) .non = _ from hget]
    cases grd (wth rs) rs.length (Hn : Int) rs.length 0 <;> rfl
  have hd : ∃ ks vs, mnP D = .dic false ks vs := ⟨_, _, rfl⟩
  obtain ⟨ks, vs, hd⟩ := hd
  have S4 : sSetF 3 (dDisp [((dNeg (dC (.int 1))), (dC (.int 0)))]) [.sh (itsP (its rs)), .sh (wsP [Hn]), .sh (knP rs), .un, .un, .un, .un] = .nx (llE rs Hn [(0, 0)] .un .un) := rfl
  refine run_ex (env := [.sh (itsP (its rs)), .sh (wsP [Hn]), .un, .un, .un, .un, .un]) ?_
  unfold den_least_lines
  rw [seq_nx (ρ1 := [.sh (itsP (its rs)), .sh (wsP [Hn]), .un, .un, .un, .un, .un]) (by simp [hCk]),
    seq_nx (ρ1 := [.sh (itsP (its rs)), .sh (wsP [Hn]), .un, .un, .un, .un, .un]) (by simp [hWl, -ap_lenN]),
    seq_nx (ρ1 := [.sh (itsP (its rs)), .sh (wsP [Hn]), .sh (knP rs), .un, .un, .un, .un]) (by simp [hBk]),
    seq_nx S4,
    seq_nx (by rw [sFor_ok (xs := (List.range rs.length).map fun k : Nat => PV.int (2 * ((k + 1 : Nat) : Int) - 1)) (ρ1 := llE rs Hn [(0, 0)] .un .un) (by simp [llE, knP])]; exact h3)]
  generalize lenO (grd (wth rs) rs.length (Hn : Int) rs.length 0) = R at *
  unfold llE
  rw [hd] at hget ⊢
  generalize 2 * ((rs.length : Nat) : Int) = N at *
  exact ⟨_, by simp [hN, hget, -ap_lenN]; rfl⟩
end PL.K95

set_option Elab.async false
set_option linter.all false
set_option maxRecDepth 100000
set_option maxHeartbeats 4000000
namespace PL.K95
open PySem PySem.Spec L2 PL
set_option autoImplicit false
/-! ### best_ragged: what the table keeps -/
abbrev RKey := Nat × Nat
abbrev RVal := Int × List Nat
abbrev RD := List (RKey × RVal)
section
variable (w : Nat → Nat → Int) (n : Nat) (H : Int)
structure AtK (key : RKey) (v : RVal) : Prop where
  ch : Chn w n H 0 key.2 v.2
  len : v.2.length = key.1
  ct : cost w n H 0 v.2 = v.1
structure BInv (D : RD) (k : Nat) : Prop where
  nd : (D.map (·.1)).Nodup
  at_ : ∀ key v, lookA D key = some v → key.2 ≤ k ∧ AtK w n H key v
  low : ∀ e, e ≤ k → ∀ r, Chn w n H 0 e r → ∃ v, lookA D (r.length, e) = some v ∧ Le v (cost w n H 0 r, r)
structure IInv (D0 : RD) (k : Nat) (D : RD) (done : RKey → Prop) : Prop where
  nd : (D.map (·.1)).Nodup
  old : ∀ key : RKey, key.2 ≤ k → lookA D key = lookA D0 key
  at_ : ∀ key v, lookA D key = some v → key.2 ≤ k + 1 ∧ AtK w n H key v
  low : ∀ key v, lookA D0 key = some v → done key → stp1 w n H key.2 (k + 1) → ∃ v', lookA D (key.1 + 1, k + 1) = some v' ∧ Le v' (v.1 + cst w n H key.2 (k + 1), v.2 ++ [k + 1])
variable {w n H}
theorem BInv.zero : BInv w n H [((0, 0), (0, []))] 0 := by
  refine ⟨by simp, fun key v h => ?_, fun e he r hr => ?_⟩
  · have h := look_mem h
    rw [List.mem_singleton] at h
    cases h
    exact ⟨Nat.le_refl _, rfl, rfl, rfl⟩
  · have h1 := chn_le r 0 e hr
    have : e = 0 := by omega
    subst this
    have : r = [] := List.eq_nil_of_length_eq_zero (by omega)
    subst this
    exact ⟨(0, []), rfl, Le.rfl' _⟩
theorem IInv.start {D : RD} {k : Nat} (i : BInv w n H D k) : IInv w n H D k D (fun _ => False) :=
  ⟨i.nd, fun _ _ => rfl, fun key v h => ⟨by have := (i.at_ key v h).1; omega, (i.at_ key v h).2⟩, fun _ _ _ h => h.elim⟩
theorem IInv.skip {D0 D : RD} {k : Nat} {done done' : RKey → Prop} (i : IInv w n H D0 k D done) (hd : ∀ key, done' key → done key ∨ ¬ stp1 w n H key.2 (k + 1)) : IInv w n H D0 k D done' :=
  ⟨i.nd, i.old, i.at_, fun key v h1 h2 h3 => by
    rcases hd key h2 with h | h
    · exact i.low key v h1 h h3
    · exact (h h3).elim⟩
theorem AtK.snoc {key : RKey} {v : RVal} {k : Nat} (a : AtK w n H key v) (h : stp1 w n H key.2 (k + 1)) : AtK w n H (key.1 + 1, k + 1) (v.1 + cst w n H key.2 (k + 1), v.2 ++ [k + 1]) :=
  ⟨chn_snoc _ _ _ a.ch h, by simp [a.len], by rw [cost_snoc _ _ _ a.ch, a.ct]⟩
theorem IInv.put {D0 D : RD} {k : Nat} {done done' : RKey → Prop} (i : IInv w n H D0 k D done) {key : RKey} {v : RVal} (h0 : lookA D0 key = some v) (hk : key.2 ≤ k) (hs : stp1 w n H key.2 (k + 1)) (hd : ∀ key', done' key' → done key' ∨ key' = key)
    (hl : ∀ v', lookA D (key.1 + 1, k + 1) = some v' → Le (v.1 + cst w n H key.2 (k + 1), v.2 ++ [k + 1]) v') : IInv w n H D0 k (putA D (key.1 + 1, k + 1) (v.1 + cst w n H key.2 (k + 1), v.2 ++ [k + 1])) done' := by
  have a := (i.at_ key v (by rw [i.old key hk]; exact h0)).2.snoc hs
  refine ⟨putA_nodup i.nd, fun key' hk' => ?_, fun key' v' h' => ?_, fun key' v' h1 h2 h3 => ?_⟩
  · rw [lookA_put, if_neg (fun e => by rw [← e] at hk'; simp at hk'; omega), i.old key' hk']
  · rw [lookA_put] at h'
    split at h'
    · rename_i e
      cases h'
      subst e
      exact ⟨Nat.le_refl _, a⟩
    · exact i.at_ key' v' h'
  · rw [lookA_put]
    rcases hd key' h2 with h | rfl
    · obtain ⟨v2, m1, m2⟩ := i.low key' v' h1 h h3
      by_cases e : (key.1 + 1, k + 1) = (key'.1 + 1, k + 1)
      · rw [if_pos e]
        rw [← e] at m1
        exact ⟨_, rfl, (hl v2 m1).trans m2⟩
      · rw [if_neg e]
        exact ⟨v2, m1, m2⟩
    · rw [if_pos rfl]
      rw [h0] at h1
      cases h1
      exact ⟨_, rfl, Le.rfl' _⟩
theorem IInv.stay {D0 D : RD} {k : Nat} {done done' : RKey → Prop} (i : IInv w n H D0 k D done) {key : RKey} {v v' : RVal} (h0 : lookA D0 key = some v) (hd : ∀ key', done' key' → done key' ∨ key' = key)
    (h1 : lookA D (key.1 + 1, k + 1) = some v') (hl : Le v' (v.1 + cst w n H key.2 (k + 1), v.2 ++ [k + 1])) : IInv w n H D0 k D done' := by
  refine ⟨i.nd, i.old, i.at_, fun key' v2 h2 h3 h4 => ?_⟩
  rcases hd key' h3 with h | rfl
  · exact i.low key' v2 h2 h h4
  · rw [h0] at h2
    cases h2
    exact ⟨v', h1, hl⟩
theorem IInv.fin {D0 D : RD} {k : Nat} {done : RKey → Prop} (b : BInv w n H D0 k) (i : IInv w n H D0 k D done) (hd : ∀ key v, lookA D0 key = some v → done key) : BInv w n H D (k + 1) := by
  refine ⟨i.nd, i.at_, fun e he r hr => ?_⟩
  by_cases h : e ≤ k
  · rw [i.old (r.length, e) h]
    exact b.low e h r hr
  · have : e = k + 1 := by omega
    subst this
    cases hq : r.getLast? with
    | none =>
      rw [List.getLast?_eq_none_iff] at hq
      subst hq
      have hr : 0 = k + 1 := hr
      omega
    | some y =>
      obtain ⟨r', rfl⟩ := last_snoc hq
      obtain ⟨u, h1, h2, h3⟩ := chn_unsnoc r' 0 hr
      subst h3
      have h4 := h2.1
      obtain ⟨v, h5, h6⟩ := b.low u (by omega) r' h1
      obtain ⟨v', h7, h8⟩ := i.low (r'.length, u) v h5 (hd _ _ h5) h2
      rw [List.length_append, List.length_singleton, cost_snoc _ _ _ h1]
      have hl := (b.at_ _ _ h5).2.len
      exact ⟨v', h7, h8.trans (Le.snoc (a := v) (b := (cost w n H 0 r', r')) hl h6)⟩
theorem BInv.len {D : RD} {k : Nat} (nd : (D.map (·.1)).Nodup) (at_ : ∀ key v, lookA D key = some v → key.2 ≤ k ∧ AtK w n H key v) (hk : k ≤ 9) : D.length ≤ 100 := by
  have := nodup_map_le (l := D.map (·.1)) (f := fun k => k.1 * 10 + k.2) (n := 100) nd (fun x hx y hy e => by
    obtain ⟨x', h1, rfl⟩ := List.mem_map.mp hx
    obtain ⟨y', h2, rfl⟩ := List.mem_map.mp hy
    have a := at_ _ _ (look_of_mem nd h1)
    have b := at_ _ _ (look_of_mem nd h2)
    have e : x'.1.1 * 10 + x'.1.2 = y'.1.1 * 10 + y'.1.2 := e
    apply Prod.ext <;> omega) (fun x hx => by
    obtain ⟨x', h1, rfl⟩ := List.mem_map.mp hx
    have a := at_ _ _ (look_of_mem nd h1)
    have c := (chn_le _ _ _ a.2.ch).1
    have d := a.2.len
    show x'.1.1 * 10 + x'.1.2 < 100
    omega)
  simpa using this
end
/-! ### and in the program -/
def keyR (k : RKey) : PV := .tup [.int (k.1 : Int), .int (2 * (k.2 : Int) - 1)]
def kOf (k : RKey) : Int × Int := ((k.1 : Int), 2 * (k.2 : Int) - 1)
theorem kEq_R (a b : RKey) : kEq (keyR a) (keyR b) = decide (a = b) := by
  refine kEq_comp (kP := kII) kEq_II (f := kOf) (fun a b h => ?_) a b
  obtain ⟨a1, a2⟩ := a
  obtain ⟨b1, b2⟩ := b
  simp only [kOf, Prod.mk.injEq] at h ⊢
  omega
theorem keyR_inj {a b : RKey} (h : keyR a = keyR b) : a = b := by
  obtain ⟨a1, a2⟩ := a
  obtain ⟨b1, b2⟩ := b
  simp only [keyR, PV.tup.injEq, List.cons.injEq, PV.int.injEq] at h
  apply Prod.ext <;> simp <;> omega
theorem good_R (k : RKey) : kGood true (keyR k) = true := rfl
def smP (D : RD) : PV := dA true keyR vP D
theorem get_sm {D : RD} {k : RKey} {v : RVal} (h : lookA D k = some v) : gDG (smP D) (keyR k) = some (vP v) := by
  unfold smP
  rw [get_A kEq_R k (good_R k), h]
  rfl
theorem has_sm (n : Bool) (D : RD) (k : RKey) : gDHas n (keyR k) (smP D) = some (.bl (if n then !(lookA D k).isSome else (lookA D k).isSome)) := has_A kEq_R k (good_R k) D n
theorem put_sm {D : RD} {k : RKey} {v : RVal} : dPutQ (D.map fun kv => keyR kv.1) (D.map fun kv => vP kv.2) (keyR k) (vP v) = ((putA D k v).map (fun kv => keyR kv.1), (putA D k v).map fun kv => vP kv.2) := put_A (vP := vP) kEq_R D k v
abbrev TyR : Ty := .tup [.int, .lst .int]
theorem is_rP {l : List Nat} (h : l.length ≤ 100000) : Is (.lst .int) (rP l) := is_lstF h fun x _ => is_int _
theorem is_vP {v : RVal} (h : v.2.length ≤ 100000) : Is TyR (vP v) := is_tup2 (is_int v.1) (is_rP h)
theorem cat_rP {l : List Nat} {e : Nat} (h : l.length ≤ 1000) : gAdd (rP l) (.lst [.int (2 * (e : Int) - 1)]) = some (rP (l ++ [e])) := by
  show gAdd (.lst _) _ = _
  rw [ap_addL, if_pos (by rw [sizeLine_eq]; simp; omega)]
  simp [rP]
theorem sort_R (D : RD) (hl : D.length ≤ 1000) : ∃ ks : List PV, sortOk (D.map fun x => keyR x.1) = true ∧ ks = (D.map fun x => keyR x.1).mergeSort pvLe ∧ (∀ q ∈ ks, ∃ x ∈ D, q = keyR x.1) ∧ ∀ x ∈ D, keyR x.1 ∈ ks := by
  have hall : ∀ p ∈ D.map fun x => keyR x.1, Is (.tup [.int, .int]) p := fun p hp => by
    obtain ⟨x, _, rfl⟩ := List.mem_map.mp hp
    exact is_tup2 (is_int _) (is_int _)
  refine ⟨_, sortOk_is (by decide) rfl hall (by simp; omega), rfl, fun q hq => ?_, fun x hx => List.mem_mergeSort.mpr (List.mem_map.mpr ⟨x, hx, rfl⟩)⟩
  obtain ⟨x, hx, rfl⟩ := List.mem_map.mp (List.mem_mergeSort.mp hq)
  exact ⟨x, hx, rfl⟩
end PL.K95

set_option Elab.async false
set_option linter.all false
set_option maxRecDepth 100000
set_option maxHeartbeats 4000000
namespace PL.K95
open PySem PySem.Spec L2 PL
set_option autoImplicit false
/-! ### best_ragged -/
def brE (rs : List Rw) (Hn : Nat) (D : RD) (s5 s6 s7 s8 s9 s10 s11 : Sl) : Env := [.sh (itsP (its rs)), .sh (wsP [Hn]), .sh (knP rs), .sh (.int (2 * (rs.length : Int) - 1)), .ow (smP D), s5, s6, s7, s8, s9, s10, s11, .un, .un]
section
variable {rs : List Rw} {Hn : Nat}
theorem br_2 (h : Rok rs) (hHn : Hn ≤ 100) {k : Nat} (hk : k < rs.length) {D0 D : RD} {done done' : RKey → Prop} (b0 : BInv (wth rs) rs.length (Hn : Int) D0 k) (i : IInv (wth rs) rs.length (Hn : Int) D0 k D done) {key : RKey} {v : RVal} (h0 : lookA D0 key = some v) (hd : ∀ key', done' key' → done key' ∨ key' = key) (s8 s9 s10 s11 : Sl) :
    ∃ D' t8 t9 t10 t11, B_best_ragged_2 (brE rs Hn D (.sh (mkP (k + 1))) (.sh (.int (key.1 : Int))) (.sh (mkP key.2)) s8 s9 s10 s11) = .nx (brE rs Hn D' (.sh (mkP (k + 1))) (.sh (.int (key.1 : Int))) (.sh (mkP key.2)) t8 t9 t10 t11) ∧ IInv (wth rs) rs.length (Hn : Int) D0 k D' done' := by
  have hn := h.len
  have hkk := (b0.at_ _ _ h0).1
  have hA := (b0.at_ _ _ h0).2
  have hlt : 2 * (key.2 : Int) - 1 < 2 * ((k + 1 : Nat) : Int) - 1 := by omega
  have hF := F_left_over_ok h (s := key.2) (e := k + 1) (by omega) (by omega) (Hn : Int)
  have hW := F_width_one Hn key.1
  have hst : stp1 (wth rs) rs.length (Hn : Int) key.2 (k + 1) ↔ wth rs key.2 (k + 1) ≤ (Hn : Int) := ⟨fun z => z.2.2, fun z => ⟨by omega, by omega, z⟩⟩
  have hbd := wth_bd h (s := key.2) (e := k + 1) (by omega) (by omega)
  have hlD := BInv.len (k := k + 1) i.nd i.at_ (by omega)
  have S1 : sSet 8 (dCall F_left_over (dCons (dVar 0) (dCons (dVar 7) (dCons (dVar 5) (dCons (dCall F_width_at (dCons (dVar 1) (dCons (dVar 6) dNil))) dNil))))) (brE rs Hn D (.sh (mkP (k + 1))) (.sh (.int (key.1 : Int))) (.sh (mkP key.2)) s8 s9 s10 s11) = .nx (brE rs Hn D (.sh (mkP (k + 1))) (.sh (.int (key.1 : Int))) (.sh (mkP key.2)) (.sh (optI (leftO rs key.2 (k + 1) (Hn : Int)))) s9 s10 s11) := by
    unfold brE mkP
    generalize 2 * (key.2 : Int) - 1 = z at *
    generalize 2 * ((k + 1 : Nat) : Int) - 1 = y at *
    generalize (key.1 : Int) = m at *
    generalize (Hn : Int) = u at *
    simp [hW, hF]
  unfold B_best_ragged_2
  rw [sIf_t (ρ1 := brE rs Hn D (.sh (mkP (k + 1))) (.sh (.int (key.1 : Int))) (.sh (mkP key.2)) s8 s9 s10 s11) (by
    unfold brE mkP
    generalize 2 * (key.2 : Int) - 1 = z at *
    generalize 2 * ((k + 1 : Nat) : Int) - 1 = y at *
    simp [hlt]), seq_nx S1]
  unfold leftO
  by_cases hw : wth rs key.2 (k + 1) ≤ (Hn : Int)
  · have hs := hst.mpr hw
    rw [if_pos hw]
    have hg : gDG (smP D) (keyR key) = some (vP v) := get_sm (by rw [i.old key hkk]; exact h0)
    have hrl : v.2.length ≤ 9 := by have := (chn_le _ _ _ hA.ch).1; omega
    have c := cat_rP (l := v.2) (e := k + 1) (by omega)
    have hsm := smI (i := (Hn : Int) - wth rs key.2 (k + 1)) (by omega) (by omega)
    have hcst : (if (2 * ((k + 1 : Nat) : Int) - 1 = 2 * (rs.length : Int) - 1) then 0 else ((Hn : Int) - wth rs key.2 (k + 1)) * ((Hn : Int) - wth rs key.2 (k + 1))) = cst (wth rs) rs.length (Hn : Int) key.2 (k + 1) := by
      unfold cst
      by_cases he : k + 1 = rs.length
      · rw [if_pos he, if_pos (by omega)]
      · rw [if_neg he, if_neg (by omega)]
    have ek : keyR (key.1 + 1, k + 1) = .tup [.int ((key.1 : Int) + 1), .int (2 * ((k + 1 : Nat) : Int) - 1)] := by
      unfold keyR
      have : ((key.1 + 1 : Nat) : Int) = (key.1 : Int) + 1 := by omega
      simp only [this]
    let c0 := cst (wth rs) rs.length (Hn : Int) key.2 (k + 1)
    have S2 : sAsg (d2l gDG 4 (dTup (dCons (dVar 6) (dCons (dVar 7) dNil)))) (gTup (gsCons (gName 9) (gsCons (gName 10) gsNil))) (brE rs Hn D (.sh (mkP (k + 1))) (.sh (.int (key.1 : Int))) (.sh (mkP key.2)) (.sh (.int ((Hn : Int) - wth rs key.2 (k + 1)))) s9 s10 s11) = .nx (brE rs Hn D (.sh (mkP (k + 1))) (.sh (.int (key.1 : Int))) (.sh (mkP key.2)) (.sh (.int ((Hn : Int) - wth rs key.2 (k + 1)))) (.sh (.int v.1)) (.sh (rP v.2)) s11) := by
      unfold keyR vP at hg
      unfold brE mkP
      generalize 2 * (key.2 : Int) - 1 = z at *
      generalize 2 * ((k + 1 : Nat) : Int) - 1 = y at *
      generalize (key.1 : Int) = m at *
      generalize smP D = M at *
      simp [hg, szn (show 2 ≤ 1000000 by omega)]
    have S3 : sSet 11 (dTup (dCons (dAdd (dVar 9) (dIf (bVal (d2 gEq (dVar 5) (dVar 3))) (dC (.int 0)) (dMul (dVar 8) (dVar 8)))) (dCons (dAdd (dVar 10) (dLst (dCons (dVar 5) dNil))) dNil))) (brE rs Hn D (.sh (mkP (k + 1))) (.sh (.int (key.1 : Int))) (.sh (mkP key.2)) (.sh (.int ((Hn : Int) - wth rs key.2 (k + 1)))) (.sh (.int v.1)) (.sh (rP v.2)) s11) = .nx (brE rs Hn D (.sh (mkP (k + 1))) (.sh (.int (key.1 : Int))) (.sh (mkP key.2)) (.sh (.int ((Hn : Int) - wth rs key.2 (k + 1)))) (.sh (.int v.1)) (.sh (rP v.2)) (.sh (vP (v.1 + c0, v.2 ++ [k + 1])))) := by
      show _ = RS.nx (brE rs Hn D (.sh (mkP (k + 1))) (.sh (.int (key.1 : Int))) (.sh (mkP key.2)) (.sh (.int ((Hn : Int) - wth rs key.2 (k + 1)))) (.sh (.int v.1)) (.sh (rP v.2)) (.sh (.tup [.int (v.1 + cst (wth rs) rs.length (Hn : Int) key.2 (k + 1)), rP (v.2 ++ [k + 1])])))
      rw [← hcst]
      unfold brE mkP
      generalize rP (v.2 ++ [k + 1]) = R2 at *
      generalize rP v.2 = R1 at *
      generalize (Hn : Int) - wth rs key.2 (k + 1) = gp at *
      generalize 2 * (key.2 : Int) - 1 = z at *
      generalize 2 * ((k + 1 : Nat) : Int) - 1 = y at *
      generalize 2 * (rs.length : Int) - 1 = l at *
      by_cases he : y = l
      · rw [if_pos he]
        simp [he] at c
        simp [he, c, szn (show 2 ≤ 1000000 by omega), szn (show 1 ≤ 1000000 by omega)]
      · rw [if_neg he]
        simp [he, c, hsm, szn (show 2 ≤ 1000000 by omega), szn (show 1 ≤ 1000000 by omega)]
    have hhas := has_sm true D (key.1 + 1, k + 1)
    have pt := put_sm (D := D) (k := (key.1 + 1, k + 1)) (v := (v.1 + c0, v.2 ++ [k + 1]))
    have gr := good_R (key.1 + 1, k + 1)
    have hz : D.length < 100000 := by omega
    have S5 : sPutD 4 (dTup (dCons (dAdd (dVar 6) (dC (.int 1))) (dCons (dVar 5) dNil))) (dVar 11) (brE rs Hn D (.sh (mkP (k + 1))) (.sh (.int (key.1 : Int))) (.sh (mkP key.2)) (.sh (.int ((Hn : Int) - wth rs key.2 (k + 1)))) (.sh (.int v.1)) (.sh (rP v.2)) (.sh (vP (v.1 + c0, v.2 ++ [k + 1])))) = .nx (brE rs Hn (putA D (key.1 + 1, k + 1) (v.1 + c0, v.2 ++ [k + 1])) (.sh (mkP (k + 1))) (.sh (.int (key.1 : Int))) (.sh (mkP key.2)) (.sh (.int ((Hn : Int) - wth rs key.2 (k + 1)))) (.sh (.int v.1)) (.sh (rP v.2)) (.sh (vP (v.1 + c0, v.2 ++ [k + 1])))) := by
      unfold brE mkP
      rw [ek] at pt gr
      generalize vP (v.1 + c0, v.2 ++ [k + 1]) = V at *
      generalize rP v.2 = R1 at *
      generalize (Hn : Int) - wth rs key.2 (k + 1) = gp at *
      generalize 2 * (key.2 : Int) - 1 = z at *
      generalize 2 * ((k + 1 : Nat) : Int) - 1 = y at *
      generalize (key.1 : Int) = m at *
      simp [smP, dA, gr, hz, pt, Sl.with, szn (show 2 ≤ 1000000 by omega)]
    have done_ : ∃ b, bOr (bVal (d2r (gDHas true) (dTup (dCons (dAdd (dVar 6) (dC (.int 1))) (dCons (dVar 5) dNil))) 4)) (bVal (d2 gLtD (dVar 11) (d2l gDG 4 (dTup (dCons (dAdd (dVar 6) (dC (.int 1))) (dCons (dVar 5) dNil)))))) (brE rs Hn D (.sh (mkP (k + 1))) (.sh (.int (key.1 : Int))) (.sh (mkP key.2)) (.sh (.int ((Hn : Int) - wth rs key.2 (k + 1)))) (.sh (.int v.1)) (.sh (rP v.2)) (.sh (vP (v.1 + c0, v.2 ++ [k + 1])))) = .ok b (brE rs Hn D (.sh (mkP (k + 1))) (.sh (.int (key.1 : Int))) (.sh (mkP key.2)) (.sh (.int ((Hn : Int) - wth rs key.2 (k + 1)))) (.sh (.int v.1)) (.sh (rP v.2)) (.sh (vP (v.1 + c0, v.2 ++ [k + 1]))))
        ∧ (b = true → ∀ v', lookA D (key.1 + 1, k + 1) = some v' → Le (v.1 + c0, v.2 ++ [k + 1]) v') ∧ (b = false → ∃ v', lookA D (key.1 + 1, k + 1) = some v' ∧ Le v' (v.1 + c0, v.2 ++ [k + 1])) := by
      cases hgl : lookA D (key.1 + 1, k + 1) with
      | none =>
        rw [hgl, ek] at hhas
        refine ⟨true, ?_, fun _ v' z => (nomatch z), fun z => nomatch z⟩
        unfold brE mkP
        generalize vP (v.1 + c0, v.2 ++ [k + 1]) = V at *
        generalize rP v.2 = R1 at *
        generalize (Hn : Int) - wth rs key.2 (k + 1) = gp at *
        generalize 2 * (key.2 : Int) - 1 = z at *
        generalize 2 * ((k + 1 : Nat) : Int) - 1 = y at *
        generalize (key.1 : Int) = m at *
        generalize smP D = M at *
        simp [hhas, szn (show 2 ≤ 1000000 by omega)]
      | some v' =>
        rw [hgl, ek] at hhas
        have hg2 := get_sm hgl
        rw [ek] at hg2
        have hA' := (i.at_ _ _ hgl).2
        have hl' : v'.2.length ≤ 20 := by
          have := (chn_le _ _ _ hA'.ch).1
          have e2 : ((key.1 + 1, k + 1) : RKey).2 = k + 1 := rfl
          omega
        have lt := ltD_is (t := TyR) (by decide) (is_vP (v := (v.1 + c0, v.2 ++ [k + 1])) (by simp; omega)) (is_vP (v := v') (by omega))
        have hv := vP_lt (v.1 + c0, v.2 ++ [k + 1]) v'
        refine ⟨pvLt (vP (v.1 + c0, v.2 ++ [k + 1])) (vP v'), ?_, fun hb v2 z => ?_, fun hb => ⟨v', rfl, ?_⟩⟩
        · unfold brE mkP
          generalize vP (v.1 + c0, v.2 ++ [k + 1]) = V at *
          generalize vP v' = V' at *
          generalize rP v.2 = R1 at *
          generalize (Hn : Int) - wth rs key.2 (k + 1) = gp at *
          generalize 2 * (key.2 : Int) - 1 = z at *
          generalize 2 * ((k + 1 : Nat) : Int) - 1 = y at *
          generalize (key.1 : Int) = m at *
          generalize smP D = M at *
          simp [hhas, hg2, lt, szn (show 2 ≤ 1000000 by omega)]
        · cases z
          exact Le.not (hv.mp hb)
        · exact Classical.byContradiction fun z => by rw [hv.mpr z] at hb; cases hb
    obtain ⟨b, d1, d2, d3⟩ := done_
    have hne : gIsN true (optI (some ((Hn : Int) - wth rs key.2 (k + 1)))) .non = some (.bl true) := rfl
    rw [sIf_t (ρ1 := brE rs Hn D (.sh (mkP (k + 1))) (.sh (.int (key.1 : Int))) (.sh (mkP key.2)) (.sh (.int ((Hn : Int) - wth rs key.2 (k + 1)))) s9 s10 s11) (by
      unfold brE
      simp [hne]
      rfl), seq_nx S2, seq_nx S3]
    cases b with
    | true => exact ⟨_, _, _, _, _, by rw [sIf_t d1, S5], i.put h0 hkk hs hd (d2 rfl)⟩
    | false =>
      obtain ⟨v', m1, m2⟩ := d3 rfl
      exact ⟨_, _, _, _, _, by rw [sIf_f d1]; rfl, i.stay h0 hd m1 m2⟩
  · rw [if_neg hw]
    refine ⟨D, .sh .non, s9, s10, s11, ?_, i.skip fun key' hk' => ?_⟩
    · unfold brE
      simp [optI, isN_non]
    · rcases hd key' hk' with z | rfl
      · exact .inl z
      · exact .inr fun z => hw (hst.mp z)
end
end PL.K95

set_option Elab.async false
set_option linter.all false
set_option maxRecDepth 100000
set_option maxHeartbeats 4000000
namespace PL.K95
open PySem PySem.Spec L2 PL
set_option autoImplicit false
section
variable {rs : List Rw} {Hn : Nat}
theorem br_1 (h : Rok rs) (hHn : Hn ≤ 100) {k : Nat} (hk : k < rs.length) {D : RD} (b0 : BInv (wth rs) rs.length (Hn : Int) D k) (s6 s7 s8 s9 s10 s11 : Sl) :
    ∃ D' t6 t7 t8 t9 t10 t11, B_best_ragged_1 (brE rs Hn D (.sh (mkP (k + 1))) s6 s7 s8 s9 s10 s11) = .nx (brE rs Hn D' (.sh (mkP (k + 1))) t6 t7 t8 t9 t10 t11) ∧ BInv (wth rs) rs.length (Hn : Int) D' (k + 1) := by
  have hn := h.len
  have hlen := BInv.len b0.nd b0.at_ (by omega)
  obtain ⟨ks, k1, k2, k3, k4⟩ := sort_R D (by omega)
  have hall : ∀ f : List PV, (∀ q ∈ f, q ∈ ks) → True := fun _ _ => trivial
  obtain ⟨ρ, h3, D', t6, t7, t8, t9, t10, t11, h4, i⟩ := dLoop_foldP (tgt := gTup (gsCons (gName 6) (gsCons (gName 7) gsNil))) (body := B_best_ragged_2)
    (fun (f : List PV) ρ => ∃ D' s6 s7 s8 s9 s10 s11, ρ = brE rs Hn D' (.sh (mkP (k + 1))) s6 s7 s8 s9 s10 s11 ∧ IInv (wth rs) rs.length (Hn : Int) D k D' (fun key => keyR key ∈ f))
    (fun q : PV => q) (fun f e => f ++ [e]) [] ks
    (fun pre q post ρ e1 hr => by
      obtain ⟨D', s6, s7, s8, s9, s10, s11, rfl, i⟩ := hr
      have e2 : pre.foldl (fun f e => f ++ [e]) [] = pre := foldl_snoc pre []
      rw [e2] at i ⊢
      obtain ⟨x, hx, rfl⟩ := k3 q (by rw [e1]; simp)
      obtain ⟨D2, t8, t9, t10, t11, a1, a2⟩ := br_2 (done' := fun key => keyR key ∈ pre ++ [keyR x.1]) h hHn hk b0 i (look_of_mem b0.nd hx) (fun key' hk' => by
        rcases List.mem_append.mp hk' with z | z
        · exact .inl z
        · exact .inr (keyR_inj (by simpa using z))) s8 s9 s10 s11
      exact ⟨_, _, rfl, .inl a1, D2, _, _, t8, t9, t10, t11, rfl, a2⟩)
    (ρ0 := brE rs Hn D (.sh (mkP (k + 1))) s6 s7 s8 s9 s10 s11) ⟨D, _, _, _, _, _, _, rfl, (IInv.start b0).skip fun key hk' => nomatch hk'⟩
  have e2 := foldl_snoc ks []
  rw [e2, List.nil_append] at i
  subst h4
  refine ⟨D', t6, t7, t8, t9, t10, t11, ?_, i.fin b0 fun key v hl => k4 _ (look_mem hl)⟩
  unfold B_best_ragged_1
  rw [List.map_id'] at h3
  have hso : dSortDTv 4 (brE rs Hn D (.sh (mkP (k + 1))) s6 s7 s8 s9 s10 s11) = .ok (.lst ks) (brE rs Hn D (.sh (mkP (k + 1))) s6 s7 s8 s9 s10 s11) := by
    rw [ap_dSortDTv]
    show (if sortOk (D.map fun x => keyR x.1) then Rs.ok (PV.lst ((D.map fun x => keyR x.1).mergeSort pvLe)) _ else Rs.bad) = _
    rw [if_pos k1, ← k2]
  rw [sFor_ok (xs := ks) (ρ1 := brE rs Hn D (.sh (mkP (k + 1))) s6 s7 s8 s9 s10 s11) (by rw [ap_iSeq, hso]; rfl)]
  exact h3
def bestP (o : Option RVal) : PV := match o with
  | none => .non
  | some v => vP v
/-- the least of all lists of ends -/
def Best (w : Nat → Nat → Int) (n : Nat) (H : Int) (o : Option RVal) : Prop := match o with
  | none => ∀ r, ¬ Chn w n H 0 n r
  | some v => Chn w n H 0 n v.2 ∧ cost w n H 0 v.2 = v.1 ∧ ∀ r, Chn w n H 0 n r → Le v (cost w n H 0 r, r)
theorem Best.uniq {w : Nat → Nat → Int} {n : Nat} {H : Int} {a b : Option RVal} (ha : Best w n H a) (hb : Best w n H b) : a = b := by
  cases a with
  | none =>
    cases b with
    | none => rfl
    | some v => exact (ha v.2 hb.1).elim
  | some u =>
    cases b with
    | none => exact (hb u.2 ha.1).elim
    | some v =>
      have h1 := ha.2.2 v.2 hb.1
      have h2 := hb.2.2 u.2 ha.1
      rw [hb.2.1] at h1
      rw [ha.2.1] at h2
      rw [Le.anti h1 h2]
theorem F_best_ragged_ok (h : Rok rs) (hH : 1 ≤ Hn) (hHn : Hn ≤ 100) : ∃ o, F_best_ragged [itsP (its rs), wsP [Hn]] = .ok (bestP o) .non ∧ Best (wth rs) rs.length (Hn : Int) o := by
  have hlen := h.len
  have hN := len_its h
  have hBk := breaks_ok h
  have hCk := F_check_paragraph_ok (its_good h) (ws := [Hn]) (by simp) (good_ws hH) (by simp)
  obtain ⟨ρ, h3, D, s5, s6, s7, s8, s9, s10, s11, h4, i⟩ := dLoop_foldP (tgt := gName 5) (body := B_best_ragged_1)
    (fun (f : List Nat) ρ => ∃ D s5 s6 s7 s8 s9 s10 s11, ρ = brE rs Hn D s5 s6 s7 s8 s9 s10 s11 ∧ BInv (wth rs) rs.length (Hn : Int) D f.length)
    (fun k : Nat => PV.int (2 * ((k + 1 : Nat) : Int) - 1)) (fun f e => f ++ [e]) [] (List.range rs.length)
    (fun pre e post ρ e1 hr => by
      obtain ⟨D, s5, s6, s7, s8, s9, s10, s11, rfl, i⟩ := hr
      have e2 : pre.foldl (fun f e => f ++ [e]) [] = pre := foldl_snoc pre []
      rw [e2] at i ⊢
      have hpl : pre.length < rs.length := by
        have := congrArg List.length e1
        simp at this
        omega
      have he : e = pre.length := by
        have e3 : (List.range rs.length)[pre.length]? = some e := by rw [e1]; simp
        rw [List.getElem?_range hpl] at e3
        cases e3
        rfl
      subst he
      obtain ⟨D', t6, t7, t8, t9, t10, t11, h6, i'⟩ := br_1 h hHn hpl i s6 s7 s8 s9 s10 s11
      exact ⟨_, _, rfl, .inl h6, D', _, t6, t7, t8, t9, t10, t11, rfl, by simpa using i'⟩)
    (ρ0 := brE rs Hn [((0, 0), (0, []))] .un .un .un .un .un .un .un) ⟨_, _, _, _, _, _, _, _, rfl, BInv.zero⟩
  have e2 := foldl_snoc (List.range rs.length) []
  rw [e2, List.nil_append, List.length_range] at i
  subst h4
  have hDl := BInv.len i.nd i.at_ (by omega)
  have key_1 : ∀ k : RKey, gIx (keyR k) (.int 1) = some (.int (2 * (k.2 : Int) - 1)) := fun _ => rfl
  have L : dLcD [13] 4 (gName 13) T_best_ragged_3 E_best_ragged_3 (brE rs Hn D s5 s6 s7 s8 s9 s10 s11) = .ok (.lst ((D.filter fun x => decide (x.1.2 = rs.length)).map fun x => vP x.2)) ([.sh (itsP (its rs)), .sh (wsP [Hn]), .sh (knP rs), .sh (.int (2 * (rs.length : Int) - 1)), .sh (smP D), s5, s6, s7, s8, s9, s10, s11, .un, .un]) :=
    dLcD_okF (fun x : RKey × RVal => keyR x.1) (fun x : RKey × RVal => vP x.2) (fun x => decide (x.1.2 = rs.length)) D (ρ1 := [.sh (itsP (its rs)), .sh (wsP [Hn]), .sh (knP rs), .sh (.int (2 * (rs.length : Int) - 1)), .sh (smP D), s5, s6, s7, s8, s9, s10, s11, .un, .un]) (vs := D.map fun x => vP x.2) rfl rfl (by omega)
      (fun c _ => by
        have k1 := key_1 c.1
        have hd : decide (c.1.2 = rs.length) = decide (2 * (c.1.2 : Int) - 1 = 2 * (rs.length : Int) - 1) := by
          by_cases z : c.1.2 = rs.length
          · rw [decide_eq_true z, decide_eq_true (by omega)]
          · rw [decide_eq_false z, decide_eq_false (by omega)]
        rw [hd]
        generalize 2 * (c.1.2 : Int) - 1 = z at *
        generalize 2 * (rs.length : Int) - 1 = y at *
        simp [T_best_ragged_3, Sl.lock, k1])
      (fun c hc _ => by
        have g1 := get_sm (look_of_mem i.nd hc)
        simp [E_best_ragged_3, Sl.lock, g1])
  have S4 : sSetF 4 (dDispT [((dTup (dCons (dC (.int 0)) (dCons (dNeg (dC (.int 1))) dNil))), (dTup (dCons (dC (.int 0)) (dCons (dLst dNil) dNil))))]) [.sh (itsP (its rs)), .sh (wsP [Hn]), .sh (knP rs), .sh (.int (2 * (rs.length : Int) - 1)), .un, .un, .un, .un, .un, .un, .un, .un, .un, .un] = .nx (brE rs Hn [((0, 0), (0, []))] .un .un .un .un .un .un .un) := by
    have e0 : (PV.tup [.int 0, .int (-1)]) = keyR (0, 0) := rfl
    have e1 : (PV.tup [.int 0, .lst []]) = vP (0, []) := rfl
    simp [dPairs, lockE, Sl.lock, szn (show 2 ≤ 1000000 by omega), ap_backE, backR, Sl.back, e0, e1, good_R, smP, dA, brE]
  have pre : ∀ r : DenS, (sSeq (sExpr (dCall F_check_paragraph (dCons (dVar 0) (dCons (dVar 1) dNil))))
    (sSeq (sSet 2 (dCall F_all_breaks (dCons (dVar 0) dNil)))
    (sSeq (sSet 3 (dSub (dN gLenN (dCons (dVar 0) dNil)) (dC (.int 1))))
    (sSeq (sSetF 4 (dDispT [((dTup (dCons (dC (.int 0)) (dCons (dNeg (dC (.int 1))) dNil))), (dTup (dCons (dC (.int 0)) (dCons (dLst dNil) dNil))))]))
    (sSeq (sFor (iSeq (dVar 2)) (gName 5) B_best_ragged_1) r))))) [.sh (itsP (its rs)), .sh (wsP [Hn]), .un, .un, .un, .un, .un, .un, .un, .un, .un, .un, .un, .un] = r (brE rs Hn D s5 s6 s7 s8 s9 s10 s11) := fun r => by
    rw [seq_nx (ρ1 := [.sh (itsP (its rs)), .sh (wsP [Hn]), .un, .un, .un, .un, .un, .un, .un, .un, .un, .un, .un, .un]) (by simp [hCk]),
      seq_nx (ρ1 := [.sh (itsP (its rs)), .sh (wsP [Hn]), .sh (knP rs), .un, .un, .un, .un, .un, .un, .un, .un, .un, .un, .un]) (by simp [hBk]),
      seq_nx (ρ1 := [.sh (itsP (its rs)), .sh (wsP [Hn]), .sh (knP rs), .sh (.int (2 * (rs.length : Int) - 1)), .un, .un, .un, .un, .un, .un, .un, .un, .un, .un]) (by simp [hN, -ap_lenN]),
      seq_nx S4,
      seq_nx (by rw [sFor_ok (xs := (List.range rs.length).map fun k : Nat => PV.int (2 * ((k + 1 : Nat) : Int) - 1)) (ρ1 := brE rs Hn [((0, 0), (0, []))] .un .un .un .un .un .un .un) (by simp [brE, knP])]; exact h3)]
  have hgo : ∀ x ∈ D.filter fun x => decide (x.1.2 = rs.length), AtK (wth rs) rs.length (Hn : Int) x.1 x.2 ∧ x.1.2 = rs.length := fun x hx => by
    obtain ⟨h1, h2⟩ := List.mem_filter.mp hx
    exact ⟨(i.at_ _ _ (look_of_mem i.nd h1)).2, of_decide_eq_true h2⟩
  have hin : ∀ r, Chn (wth rs) rs.length (Hn : Int) 0 rs.length r → ∃ x ∈ D.filter fun x => decide (x.1.2 = rs.length), Le x.2 (cost (wth rs) rs.length (Hn : Int) 0 r, r) := fun r hr => by
    obtain ⟨v, h1, h2⟩ := i.low rs.length (Nat.le_refl _) r hr
    exact ⟨_, List.mem_filter.mpr ⟨look_mem h1, by simp⟩, h2⟩
  cases hG : D.filter fun x => decide (x.1.2 = rs.length) with
  | nil =>
    rw [hG] at L hin
    refine ⟨none, run_ex (env := [.sh (itsP (its rs)), .sh (wsP [Hn]), .un, .un, .un, .un, .un, .un, .un, .un, .un, .un, .un, .un]) ?_, fun r hr => ?_⟩
    · unfold den_best_ragged
      rw [pre, seq_nx (sSet_ok L)]
      exact ⟨_, by simp [tr_nil, bestP]; rfl⟩
    · obtain ⟨x, hx, _⟩ := hin r hr
      cases hx
  | cons x G =>
    rw [hG] at L hin hgo
    obtain ⟨y, y1, y2, y3⟩ := minP_spec vP Le vP_lt Le.total (fun a b c => Le.trans) (G.map (·.2)) x.2
    have y1 : y ∈ (x :: G).map (·.2) := y1
    obtain ⟨x', x1, rfl⟩ := List.mem_map.mp y1
    have hall : ∀ p ∈ vP x.2 :: (G.map (·.2)).map vP, Is TyR p := fun p hp => by
      rw [← List.map_cons, ← List.map_cons (f := fun z : RKey × RVal => z.2)] at hp
      obtain ⟨v, hv, rfl⟩ := List.mem_map.mp hp
      obtain ⟨z, hz, rfl⟩ := List.mem_map.mp hv
      have := (chn_le _ _ _ (hgo z hz).1.ch).1
      have := (hgo z hz).2
      exact is_vP (by omega)
    have hmin := minD_is (t := TyR) (by decide) hall
    rw [y2, List.map_map] at hmin
    have hmin : gMinD [.lst ((x :: G).map fun x => vP x.2)] = some (vP x'.2) := hmin
    obtain ⟨a1, a2⟩ := hgo x' x1
    refine ⟨some x'.2, run_ex (env := [.sh (itsP (its rs)), .sh (wsP [Hn]), .un, .un, .un, .un, .un, .un, .un, .un, .un, .un, .un, .un]) ?_, ⟨by have := a1.ch; rwa [a2] at this, a1.ct, fun r hr => ?_⟩⟩
    · unfold den_best_ragged
      rw [pre, seq_nx (sSet_ok L)]
      have tr : truth (.lst ((x :: G).map fun x => vP x.2)) = some true := rfl
      generalize PV.lst ((x :: G).map fun x => vP x.2) = L0 at *
      exact ⟨_, by simp [tr, hmin, bestP]; rfl⟩
    · obtain ⟨z, z1, z2⟩ := hin r hr
      exact (y3 z.2 (by rw [← List.map_cons (f := fun z : RKey × RVal => z.2)]; exact List.mem_map_of_mem z1)).trans z2
end
end PL.K95

set_option Elab.async false
set_option linter.all false
set_option maxRecDepth 100000
set_option maxHeartbeats 4000000
namespace PL.K95
open PySem PySem.Spec L2 PL
set_option autoImplicit false
/-! ### the table of the pages -/
section
variable (w : Nat → Nat → Int) (n : Nat) (H : Int)
def Lst (e : Nat) (o : Option Int) : Prop := match o with
  | none => ∀ r, ¬ Chn w n H e n r
  | some t => (∃ r, Chn w n H e n r ∧ cost w n H e r = t) ∧ ∀ r, Chn w n H e n r → t ≤ cost w n H e r
structure TInv (F : List (Option Int)) (s : Nat) : Prop where
  len : F.length = n + 1
  at_ : ∀ e, s ≤ e → e ≤ n → ∀ o, F[e]? = some o → Lst w n H e o
/-- the sums of a start -/
def sumsO (F : List (Option Int)) (s : Nat) (es : List Nat) : List Int := es.filterMap fun e => (F.getD e none).map fun t => t + cst w n H s e
variable {w n H}
theorem TInv.get {F : List (Option Int)} {s e : Nat} (i : TInv w n H F s) (he : e ≤ n) : F[e]? = some (F.getD e none) := by
  have : e < F.length := by rw [i.len]; omega
  rw [List.getD_eq_getElem?_getD, List.getElem?_eq_getElem this]
  rfl
theorem TInv.val {F : List (Option Int)} {s e : Nat} (i : TInv w n H F s) (h1 : s ≤ e) (he : e ≤ n) : Lst w n H e (F.getD e none) := i.at_ e h1 he _ (i.get he)
theorem TInv.zero : TInv w n H (List.replicate n none ++ [some 0]) n := by
  refine ⟨by simp, fun e h1 h2 o ho => ?_⟩
  have : e = n := by omega
  subst this
  rw [List.getElem?_append_right (by simp)] at ho
  simp at ho
  subst ho
  refine ⟨⟨[], rfl, rfl⟩, fun r hr => ?_⟩
  have := (chn_le r e e hr).1
  have : r = [] := List.eq_nil_of_length_eq_zero (by omega)
  subst this
  exact Int.le_refl _
theorem TInv.set {F : List (Option Int)} {s : Nat} (i : TInv w n H F (s + 1)) (hs : s < n) {o : Option Int} (ho : Lst w n H s o) : TInv w n H (F.set s o) s := by
  refine ⟨by rw [List.length_set]; exact i.len, fun e h1 h2 o' h' => ?_⟩
  by_cases he : e = s
  · subst he
    rw [List.getElem?_set_self (by rw [i.len]; omega)] at h'
    cases h'
    exact ho
  · rw [List.getElem?_set_ne (fun z => he z.symm)] at h'
    exact i.at_ e (by omega) h2 o' h'
theorem sums_none {F : List (Option Int)} {s : Nat} (i : TInv w n H F (s + 1)) (hs : s < n) (h : sumsO w n H F s (able w n H s) = []) : Lst w n H s none := fun r hr => by
  cases r with
  | nil => have hr : s = n := hr; omega
  | cons e r =>
    obtain ⟨k, hr⟩ := hr
    have h1 := k.1
    have v := i.val (e := e) (by omega) k.2.1
    cases hv : F.getD e none with
    | none => rw [hv] at v; exact v r hr
    | some t =>
      have : t + cst w n H s e ∈ sumsO w n H F s (able w n H s) := List.mem_filterMap.mpr ⟨e, mem_able.mpr k, by rw [hv]; rfl⟩
      rw [h] at this
      cases this
theorem sums_some {F : List (Option Int)} {s : Nat} (i : TInv w n H F (s + 1)) (hs : s < n) {m : Int} (h1 : m ∈ sumsO w n H F s (able w n H s)) (h2 : ∀ z ∈ sumsO w n H F s (able w n H s), m ≤ z) : Lst w n H s (some m) := by
  refine ⟨?_, fun r hr => ?_⟩
  · obtain ⟨e, e1, e2⟩ := List.mem_filterMap.mp h1
    have k := mem_able.mp e1
    have k1 := k.1
    have v := i.val (e := e) (by omega) k.2.1
    cases hv : F.getD e none with
    | none => rw [hv] at e2; cases e2
    | some t =>
      rw [hv] at e2 v
      have e2 : t + cst w n H s e = m := Option.some.inj e2
      obtain ⟨⟨r, a, b⟩, _⟩ := v
      exact ⟨e :: r, ⟨k, a⟩, by show cst w n H s e + cost w n H e r = _; omega⟩
  · cases r with
    | nil => have hr : s = n := hr; omega
    | cons e r =>
      obtain ⟨k, hr⟩ := hr
      have k1 := k.1
      have v := i.val (e := e) (by omega) k.2.1
      cases hv : F.getD e none with
      | none => rw [hv] at v; exact (v r hr).elim
      | some t =>
        rw [hv] at v
        have a := v.2 r hr
        have b := h2 (t + cst w n H s e) (List.mem_filterMap.mpr ⟨e, mem_able.mpr k, by rw [hv]; rfl⟩)
        show m ≤ cst w n H s e + cost w n H e r
        omega
/-! the walk from the front -/
def hit (F : List (Option Int)) (s e : Nat) : Bool := match F.getD e none with
  | none => false
  | some t => decide (F.getD s none = some (t + cst w n H s e))
def walk (w : Nat → Nat → Int) (n : Nat) (H : Int) (F : List (Option Int)) : Nat → Nat → List Nat
  | 0, _ => []
  | f + 1, s => if n ≤ s then [] else match (able w n H s).find? (hit (w := w) (n := n) (H := H) F s) with
    | none => []
    | some e => e :: walk w n H F f e
theorem hit_some {F : List (Option Int)} {s e : Nat} (h : hit (w := w) (n := n) (H := H) F s e = true) : ∃ t, F.getD e none = some t ∧ F.getD s none = some (t + cst w n H s e) := by
  unfold hit at h
  cases hv : F.getD e none with
  | none => rw [hv] at h; cases h
  | some t => rw [hv] at h; exact ⟨t, rfl, of_decide_eq_true h⟩
theorem find_first {l : List Nat} {p : Nat → Bool} (hp : l.Pairwise (· < ·)) {e : Nat} (h : l.find? p = some e) : e ∈ l ∧ p e = true ∧ ∀ x ∈ l, p x = true → e ≤ x := by
  refine ⟨List.mem_of_find?_eq_some h, List.find?_some h, ?_⟩
  induction l with
  | nil => cases h
  | cons a l ih =>
    rw [List.find?_cons] at h
    rcases List.pairwise_cons.mp hp with ⟨h1, h2⟩
    cases hpa : p a with
    | true =>
      rw [hpa] at h
      cases h
      intro x hx _
      rcases List.mem_cons.mp hx with rfl | hx
      · exact Nat.le_refl _
      · exact Nat.le_of_lt (h1 x hx)
    | false =>
      rw [hpa] at h
      intro x hx hpx
      rcases List.mem_cons.mp hx with rfl | hx
      · rw [hpa] at hpx; cases hpx
      · exact ih h2 h x hx hpx
theorem walk_ok {F : List (Option Int)} (i : TInv w n H F 0) : ∀ (f s : Nat) (t : Int), n - s ≤ f → s ≤ n → F.getD s none = some t →
    Chn w n H s n (walk w n H F f s) ∧ cost w n H s (walk w n H F f s) = t ∧ ∀ r, Chn w n H s n r → cost w n H s r = t → lel (walk w n H F f s) r := by
  intro f
  induction f with
  | zero =>
    intro s t h1 h2 h3
    have : s = n := by omega
    subst this
    have v := i.val (Nat.zero_le s) h2
    rw [h3] at v
    have e : walk w s H F 0 s = [] := rfl
    rw [e]
    refine ⟨rfl, ?_, fun r _ _ => by cases r <;> trivial⟩
    obtain ⟨⟨r, a, b⟩, c⟩ := v
    have h4 := (chn_le r s s a).1
    have : r = [] := List.eq_nil_of_length_eq_zero (by omega)
    subst this
    exact b
  | succ f ih =>
    intro s t h1 h2 h3
    have v := i.val (Nat.zero_le s) h2
    rw [h3] at v
    by_cases hs : n ≤ s
    · have : s = n := by omega
      subst this
      have e : walk w s H F (f + 1) s = [] := by unfold walk; rw [if_pos hs]
      rw [e]
      refine ⟨rfl, ?_, fun r _ _ => by cases r <;> trivial⟩
      obtain ⟨⟨r, a, b⟩, c⟩ := v
      have h4 := (chn_le r s s a).1
      have : r = [] := List.eq_nil_of_length_eq_zero (by omega)
      subst this
      exact b
    · have hlt : s < n := by omega
      have key : ∀ e r, Chn w n H s n (e :: r) → cost w n H s (e :: r) = t → hit (w := w) (n := n) (H := H) F s e = true ∧ ∃ t', F.getD e none = some t' ∧ cost w n H e r = t' := fun e r hr hc => by
        obtain ⟨k, hr⟩ := hr
        have v' := i.val (Nat.zero_le e) k.2.1
        cases hv : F.getD e none with
        | none => rw [hv] at v'; exact (v' r hr).elim
        | some t' =>
          rw [hv] at v'
          obtain ⟨⟨r0, a0, b0⟩, c0⟩ := v'
          have x1 := c0 r hr
          have x2 := v.2 (e :: r0) ⟨k, a0⟩
          have x2 : t ≤ cst w n H s e + cost w n H e r0 := x2
          have hc : cst w n H s e + cost w n H e r = t := hc
          refine ⟨?_, t', rfl, by omega⟩
          unfold hit
          rw [hv, h3]
          exact decide_eq_true (by congr 1; omega)
      obtain ⟨⟨r0, a0, b0⟩, c0⟩ := v
      cases r0 with
      | nil => have a0 : s = n := a0; omega
      | cons e0 r0 =>
        have k0 := key e0 r0 a0 b0
        cases hf : (able w n H s).find? (hit (w := w) (n := n) (H := H) F s) with
        | none =>
          have := List.find?_eq_none.mp hf e0 (mem_able.mpr a0.1)
          exact (this k0.1).elim
        | some e =>
          obtain ⟨m1, m2, m3⟩ := find_first (able_asc s) hf
          have k := mem_able.mp m1
          obtain ⟨t', y1, y2⟩ := hit_some m2
          have k1 := k.1
          obtain ⟨i1, i2, i3⟩ := ih e t' (by omega) k.2.1 y1
          have e0 : walk w n H F (f + 1) s = e :: walk w n H F f e := by
            rw [show walk w n H F (f + 1) s = if n ≤ s then [] else match (able w n H s).find? (hit (w := w) (n := n) (H := H) F s) with
              | none => []
              | some e => e :: walk w n H F f e from rfl, if_neg hs]
            simp only [hf]
          rw [e0]
          rw [h3] at y2
          cases y2
          refine ⟨⟨k, i1⟩, by show cst w n H s e + cost w n H e _ = _; omega, fun r hr hc => ?_⟩
          cases r with
          | nil => have hr : s = n := hr; omega
          | cons e1 r1 =>
            obtain ⟨z1, t1, z2, z3⟩ := key e1 r1 hr hc
            have := m3 e1 (mem_able.mpr hr.1) z1
            by_cases he : e = e1
            · subst he
              rw [y1] at z2
              cases z2
              exact .inr ⟨rfl, i3 r1 hr.2 z3⟩
            · exact .inl (by omega)
theorem walk_best {F : List (Option Int)} (i : TInv w n H F 0) : Best w n H ((F.getD 0 none).map fun t => (t, walk w n H F n 0)) := by
  have v := i.val (Nat.zero_le 0) (Nat.zero_le n)
  cases hv : F.getD 0 none with
  | none => rw [hv] at v; exact v
  | some t =>
    rw [hv] at v
    obtain ⟨a, b, c⟩ := walk_ok i n 0 t (by omega) (by omega) hv
    refine ⟨a, b, fun r hr => ?_⟩
    have := v.2 r hr
    rcases Int.lt_or_eq_of_le this with h | h
    · exact .inl h
    · exact .inr ⟨h, c r hr h.symm⟩
end
end PL.K95

set_option Elab.async false
set_option linter.all false
set_option maxRecDepth 100000
set_option maxHeartbeats 4000000
namespace PL.K95
open PySem PySem.Spec L2 PL
set_option autoImplicit false
/-! ### Pages.least -/
def fP (F : List (Option Int)) : PV := .lst (F.map optI)
def isP (l : List Int) : PV := .lst (l.map PV.int)
theorem ix_fP {F : List (Option Int)} {e : Nat} (h : e < F.length) : gIx (fP F) (.int (e : Int)) = some (optI (F.getD e none)) := by
  show atI (F.map optI) (e : Nat) = _
  rw [atI_nat (by simpa using h), List.getD_eq_getElem?_getD, List.getElem?_eq_getElem h]
  simp
theorem app_isP {l : List Int} {i : Int} (h : l.length ≤ 100000) : gAppend (isP l) [.int i] = some (isP (l ++ [i]), .non) := by
  unfold isP
  rw [ap_app, if_pos (by rw [List.length_map, sizeLine_eq]; omega)]
  simp
theorem set_fP {F : List (Option Int)} {s : Nat} {o : Option Int} (h : s < F.length) : gSetL (fP F) (.int (s : Int)) (optI o) = some (fP (F.set s o)) := by
  show (ixN (F.map optI).length (s : Int)).map (fun j => PV.lst ((F.map optI).set j (optI o))) = _
  have e : ixN (F.map optI).length (s : Int) = some s := by
    unfold ixN
    rw [if_pos (by omega), if_pos (by rw [List.length_map]; omega)]
    simp
  rw [e]
  simp [fP, List.map_set]
section
variable {rs : List Rw} {H : Int}
theorem meth_bad (h : Rok rs) (hH1 : -1000 ≤ H) (hH2 : H ≤ 1000) {s e : Nat} (h1 : s < e) (h2 : e ≤ rs.length) {dob : Den} {da : DenL} {ρ ρ1 ρ2 : Env} (e1 : dob ρ = .ok (pgP rs H) ρ1) (e2 : da ρ1 = .ok [.int (e : Int), .int (wth rs s e)] ρ2) : dMeth ("Pages" : Str) ("badness" : Str) F_Pages_badness dob da ρ = .ok (.int (cst (wth rs) rs.length H s e)) ρ2 :=
  meth_ok (by kernel_rfl) e1 e2 (F_badness_ok h hH1 hH2 h1 h2)
def leE (rs : List Rw) (H : Int) (F : List (Option Int)) (s2 s3 s4 s5 : Sl) : Env := [.sh (pgP rs H), .ow (fP F), s2, s3, s4, s5]
theorem le_2 (h : Rok rs) (hH1 : -1000 ≤ H) (hH2 : H ≤ 1000) {F : List (Option Int)} (hF : F.length = rs.length + 1) {s e : Nat} (h1 : s < e) (h2 : e ≤ rs.length) (L : List Int) (hL : L.length ≤ 1000) :
    B_Pages_least_2 (leE rs H F (.sh (.int (s : Int))) (.ow (isP L)) (.sh (.int (e : Int))) (.sh (.int (wth rs s e)))) = .nx (leE rs H F (.sh (.int (s : Int))) (.ow (isP (L ++ ((F.getD e none).map fun t => t + cst (wth rs) rs.length H s e).toList))) (.sh (.int (e : Int))) (.sh (.int (wth rs s e)))) := by
  have hx := ix_fP (F := F) (e := e) (by omega)
  have hi := isN_opt true (F.getD e none)
  unfold B_Pages_least_2
  cases hv : F.getD e none with
  | none =>
    rw [hv] at hx hi
    have e0 : L ++ ((none : Option Int).map fun t => t + cst (wth rs) rs.length H s e).toList = L := by simp
    rw [e0]
    unfold leE
    generalize (e : Int) = z at *
    simp [hx, hi]
  | some t =>
    rw [hv] at hx hi
    have hm := meth_bad h hH1 hH2 h1 h2 (dob := dVar 0) (da := dCons (dVar 4) (dCons (dVar 5) dNil)) (ρ := leE rs H F (.sh (.int (s : Int))) (.ow (isP L)) (.sh (.int (e : Int))) (.sh (.int (wth rs s e)))) (ρ1 := leE rs H F (.sh (.int (s : Int))) (.ow (isP L)) (.sh (.int (e : Int))) (.sh (.int (wth rs s e)))) (ρ2 := leE rs H F (.sh (.int (s : Int))) (.ow (isP L)) (.sh (.int (e : Int))) (.sh (.int (wth rs s e)))) rfl rfl
    have ha := app_isP (l := L) (i := t + cst (wth rs) rs.length H s e) (by omega)
    have ht : isT "list" (isP L) = true := rfl
    have e0 : L ++ ((some t).map fun t => t + cst (wth rs) rs.length H s e).toList = L ++ [t + cst (wth rs) rs.length H s e] := rfl
    rw [e0]
    rw [sIf_t (ρ1 := leE rs H F (.sh (.int (s : Int))) (.ow (isP L)) (.sh (.int (e : Int))) (.sh (.int (wth rs s e)))) (by
      unfold leE
      generalize (e : Int) = z at *
      simp [hx, hi])]
    unfold leE at *
    generalize cst (wth rs) rs.length H s e = c at *
    generalize wth rs s e = u at *
    generalize (e : Int) = z at *
    have hd : d2l gIx 1 (dVar 4) [.sh (pgP rs H), .ow (fP F), .sh (.int (s : Int)), .ow (isP L), .sh (.int z), .sh (.int u)] = .ok (.int t) [.sh (pgP rs H), .ow (fP F), .sh (.int (s : Int)), .ow (isP L), .sh (.int z), .sh (.int u)] := by
      simp [hx, optI]
    have hs : dAdd (d2l gIx 1 (dVar 4)) (dMeth ("Pages" : Str) ("badness" : Str) F_Pages_badness (dVar 0) (dCons (dVar 4) (dCons (dVar 5) dNil))) [.sh (pgP rs H), .ow (fP F), .sh (.int (s : Int)), .ow (isP L), .sh (.int z), .sh (.int u)] = .ok (.int (t + c)) [.sh (pgP rs H), .ow (fP F), .sh (.int (s : Int)), .ow (isP L), .sh (.int z), .sh (.int u)] := by
      simp [hx, optI, hm, -ap_dMeth]
    simp [hx, optI, hm, ha, ht, -ap_dMeth]
theorem sums_len (F : List (Option Int)) (w : Nat → Nat → Int) (n s : Nat) (es : List Nat) : (sumsO w n H F s es).length ≤ es.length := List.length_filterMap_le _ _
theorem able_len {w : Nat → Nat → Int} {n s : Nat} : (able w n H s).length ≤ n := by
  unfold able
  have := List.length_filter_le (fun e => decide (w s e ≤ H)) (List.range' (s + 1) (n - s))
  simp at this
  omega
theorem le_1 (h : Rok rs) (hH1 : -1000 ≤ H) (hH2 : H ≤ 1000) {F : List (Option Int)} {s : Nat} (hs : s < rs.length) (i : TInv (wth rs) rs.length H F (s + 1)) (s3 s4 s5 : Sl) :
    ∃ F' t3 t4 t5, B_Pages_least_1 (leE rs H F (.sh (.int (s : Int))) s3 s4 s5) = .nx (leE rs H F' (.sh (.int (s : Int))) t3 t4 t5) ∧ TInv (wth rs) rs.length H F' s := by
  have hn := h.len
  have hFl := i.len
  have hal := able_len (w := wth rs) (n := rs.length) (s := s) (H := H)
  obtain ⟨ρ, h3, s4, s5, h4⟩ := dLoop_foldP (tgt := gTup (gsCons (gName 4) (gsCons (gName 5) gsNil))) (body := B_Pages_least_2)
    (fun (f : List Nat) ρ => ∃ s4 s5, ρ = leE rs H F (.sh (.int (s : Int))) (.ow (isP (sumsO (wth rs) rs.length H F s f))) s4 s5)
    (endP rs s) (fun f e => f ++ [e]) [] (able (wth rs) rs.length H s)
    (fun pre e post ρ e1 hr => by
      obtain ⟨s4, s5, rfl⟩ := hr
      have e2 : pre.foldl (fun f e => f ++ [e]) [] = pre := foldl_snoc pre []
      rw [e2]
      have hm : e ∈ able (wth rs) rs.length H s := by rw [e1]; simp
      obtain ⟨k1, k2, k3⟩ := mem_able.mp hm
      have hpl : pre.length ≤ (able (wth rs) rs.length H s).length := by rw [e1]; simp
      have := sums_len (H := H) F (wth rs) rs.length s pre
      have hone := le_2 h hH1 hH2 hFl k1 k2 (sumsO (wth rs) rs.length H F s pre) (by omega)
      refine ⟨_, _, rfl, .inl hone, .sh (.int (e : Int)), .sh (.int (wth rs s e)), ?_⟩
      unfold sumsO
      rw [List.filterMap_append]
      cases hq : F.getD e none <;> simp only [List.filterMap_cons, List.filterMap_nil, hq, Option.map_none, Option.map_some] <;> rfl)
    (ρ0 := leE rs H F (.sh (.int (s : Int))) (.ow (isP [])) s4 s5) ⟨_, _, rfl⟩
  have e2 := foldl_snoc (able (wth rs) rs.length H s) []
  rw [e2, List.nil_append] at h4
  subst h4
  have hM : ∀ x4 x5, dMeth ("Pages" : Str) ("ends" : Str) F_Pages_ends (dVar 0) (dCons (dVar 2) dNil) (leE rs H F (.sh (.int (s : Int))) (.ow (isP [])) x4 x5) = .ok (endsP rs H s) (leE rs H F (.sh (.int (s : Int))) (.ow (isP [])) x4 x5) := fun x4 x5 => meth_ends h (by omega) rfl rfl
  have pre : ∀ (r : DenS) (x4 x5 : Sl), dLoop (gTup (gsCons (gName 4) (gsCons (gName 5) gsNil))) B_Pages_least_2 ((able (wth rs) rs.length H s).map (endP rs s)) (leE rs H F (.sh (.int (s : Int))) (.ow (isP [])) x4 x5) = .nx (leE rs H F (.sh (.int (s : Int))) (.ow (isP (sumsO (wth rs) rs.length H F s (able (wth rs) rs.length H s)))) s4 s5) → (sSeq (sSetF 3 (dLst dNil))
    (sSeq (sFor (iSeq (dMeth ("Pages" : Str) ("ends" : Str) F_Pages_ends (dVar 0) (dCons (dVar 2) dNil))) (gTup (gsCons (gName 4) (gsCons (gName 5) gsNil))) B_Pages_least_2) r)) (leE rs H F (.sh (.int (s : Int))) s3 x4 x5) = r (leE rs H F (.sh (.int (s : Int))) (.ow (isP (sumsO (wth rs) rs.length H F s (able (wth rs) rs.length H s)))) s4 s5) := fun r x4 x5 hl => by
    rw [seq_nx (ρ1 := leE rs H F (.sh (.int (s : Int))) (.ow (isP [])) x4 x5) (by simp [leE, isP]),
      seq_nx (by rw [sFor_ok (xs := (able (wth rs) rs.length H s).map (endP rs s)) (ρ1 := leE rs H F (.sh (.int (s : Int))) (.ow (isP [])) x4 x5) (by rw [ap_iSeq, hM]; rfl)]; exact hl)]
  unfold B_Pages_least_1
  rw [pre _ _ _ h3]
  cases hS : sumsO (wth rs) rs.length H F s (able (wth rs) rs.length H s) with
  | nil =>
    have st := set_fP (F := F) (s := s) (o := none) (by omega)
    refine ⟨F.set s none, .ow (isP []), s4, s5, ?_, i.set hs (sums_none i hs hS)⟩
    unfold leE
    have st : gSetL (fP F) (.int (s : Int)) .non = _ := st
    generalize (s : Int) = z at *
    have tr : truth (isP []) = some false := rfl
    simp [tr, st, Sl.with]
  | cons x l =>
    obtain ⟨m, m1, m2, m3⟩ := min_ints (l := x :: l) (by simp)
    rw [← hS] at m1 m3
    have st := set_fP (F := F) (s := s) (o := some m) (by omega)
    refine ⟨F.set s (some m), .sh (isP (x :: l)), s4, s5, ?_, i.set hs (sums_some i hs m1 m3)⟩
    unfold leE
    have st : gSetL (fP F) (.int (s : Int)) (.int m) = _ := st
    have m2 : gMinD [isP (x :: l)] = some (.int m) := m2
    have tr : truth (isP (x :: l)) = some true := rfl
    generalize (s : Int) = z at *
    generalize isP (x :: l) = L at *
    simp [tr, st, m2, Sl.with]
theorem F_least_ok (h : Rok rs) (hH1 : -1000 ≤ H) (hH2 : H ≤ 1000) : ∃ F, TInv (wth rs) rs.length H F 0 ∧ F_Pages_least [pgP rs H] = .ok (fP F) .non := by
  have hn := h.len
  obtain ⟨ρ, h3, F, s2, s3, s4, s5, h4, i⟩ := dLoop_foldP (tgt := gName 2) (body := B_Pages_least_1)
    (fun (f : List Nat) ρ => ∃ F s2 s3 s4 s5, ρ = leE rs H F s2 s3 s4 s5 ∧ TInv (wth rs) rs.length H F (rs.length - f.length))
    (fun k : Nat => PV.int ((rs.length : Int) - 1 + (k : Int) * (-1))) (fun f e => f ++ [e]) [] (List.range rs.length)
    (fun pre e post ρ e1 hr => by
      obtain ⟨F, s2, s3, s4, s5, rfl, i⟩ := hr
      have e2 : pre.foldl (fun f e => f ++ [e]) [] = pre := foldl_snoc pre []
      rw [e2] at i ⊢
      have hpl : pre.length < rs.length := by
        have := congrArg List.length e1
        simp at this
        omega
      have he : e = pre.length := by
        have e3 : (List.range rs.length)[pre.length]? = some e := by rw [e1]; simp
        rw [List.getElem?_range hpl] at e3
        cases e3
        rfl
      subst he
      have e4 : rs.length - pre.length = (rs.length - pre.length - 1) + 1 := by omega
      rw [e4] at i
      obtain ⟨F', t3, t4, t5, h6, i'⟩ := le_1 h hH1 hH2 (s := rs.length - pre.length - 1) (by omega) i s3 s4 s5
      have e5 : (rs.length : Int) - 1 + (pre.length : Int) * (-1) = ((rs.length - pre.length - 1 : Nat) : Int) := by omega
      rw [e5]
      exact ⟨_, _, rfl, .inl h6, F', _, t3, t4, t5, rfl, by rw [List.length_append, List.length_singleton]; rwa [show rs.length - (pre.length + 1) = rs.length - pre.length - 1 by omega]⟩)
    (ρ0 := leE rs H (List.replicate rs.length none ++ [some 0]) .un .un .un .un) ⟨_, _, _, _, _, rfl, TInv.zero⟩
  have e2 := foldl_snoc (List.range rs.length) []
  rw [e2, List.nil_append, List.length_range, Nat.sub_self] at i
  subst h4
  refine ⟨F, i, run_ex (env := [.sh (pgP rs H), .un, .un, .un, .un, .un]) ?_⟩
  have hco := fld_count (R := rowsP rs) (H := H) (N := (rs.length : Nat))
  have e0 : pgP rs H = pgO (rowsP rs) H (rs.length : Nat) := rfl
  rw [← e0] at hco
  have S1 : sSetF 1 (d2 gCat (dMul (dLst (dCons (dC .non) dNil)) (d1 (gFld ("Pages" : Str) ("count" : Str)) (dVar 0))) (dLst (dCons (dC (.int 0)) dNil))) [.sh (pgP rs H), .un, .un, .un, .un, .un] = .nx (leE rs H (List.replicate rs.length none ++ [some 0]) .un .un .un .un) := by
    have hm : gMul (.lst [.non]) (.int (rs.length : Nat)) = some (.lst (List.replicate rs.length .non)) := by
      have hr : ∀ k : Nat, (List.replicate k [PV.non]).flatten = List.replicate k PV.non := fun k => by
        induction k with
        | zero => rfl
        | succ k ih => rw [List.replicate_succ, List.flatten_cons, ih]; rfl
      have h2 : rs.length ≤ sizeLine := szn (by omega)
      have h4 : ((rs.length : Nat) : Int).toNat = rs.length := Int.toNat_natCast _
      have h5 : (decide (-(2 ^ 63) ≤ ((rs.length : Nat) : Int)) && decide (((rs.length : Nat) : Int) < 2 ^ 63) && decide (([PV.non] : List PV).length * ((rs.length : Nat) : Int).toNat ≤ sizeLine)) = true := by
        rw [h4, decide_eq_true (by omega), decide_eq_true (by omega), decide_eq_true (by rw [List.length_singleton, Nat.one_mul]; exact h2)]
        rfl
      rw [show gMul (.lst [.non]) (.int (rs.length : Nat)) = if (decide (-(2 ^ 63) ≤ ((rs.length : Nat) : Int)) && decide (((rs.length : Nat) : Int) < 2 ^ 63) && decide (([PV.non] : List PV).length * ((rs.length : Nat) : Int).toNat ≤ sizeLine)) = true then some (.lst (List.replicate ((rs.length : Nat) : Int).toNat [PV.non]).flatten) else none from id rfl, if_pos h5, h4, hr]
    have hc : gCat (.lst (List.replicate rs.length .non)) (.lst [.int 0]) = some (fP (List.replicate rs.length none ++ [some 0])) := by
      rw [ap_cat, if_pos (by simp; exact szn (by omega))]
      simp [fP, optI]
    unfold leE
    generalize pgP rs H = P at *
    generalize ((rs.length : Nat) : Int) = N at *
    simp [hco, hm, hc, szn (show 1 ≤ 1000000 by omega)]
  have hI : iR3 (dCons (dSub (d1 (gFld ("Pages" : Str) ("count" : Str)) (dVar 0)) (dC (.int 1))) (dCons (dNeg (dC (.int 1))) (dCons (dNeg (dC (.int 1))) dNil))) (leE rs H (List.replicate rs.length none ++ [some 0]) .un .un .un .un) = .ok ((List.range rs.length).map fun k : Nat => PV.int ((rs.length : Int) - 1 + (k : Int) * (-1))) (leE rs H (List.replicate rs.length none ++ [some 0]) .un .un .un .un) := by
    have hr := rg3_down (ρ := leE rs H (List.replicate rs.length none ++ [some 0]) .un .un .un .un) (i := (rs.length : Int) - 1) (j := -1) (by omega) (by omega) (by omega) (by omega)
    have e3 : ((rs.length : Int) - 1 - -1).toNat = rs.length := by omega
    rw [e3] at hr
    unfold rangeC at hr
    have hd : dCons (dSub (d1 (gFld ("Pages" : Str) ("count" : Str)) (dVar 0)) (dC (.int 1))) (dCons (dNeg (dC (.int 1))) (dCons (dNeg (dC (.int 1))) dNil)) (leE rs H (List.replicate rs.length none ++ [some 0]) .un .un .un .un) = .ok [.int ((rs.length : Int) - 1), .int (-1), .int (-1)] (leE rs H (List.replicate rs.length none ++ [some 0]) .un .un .un .un) := by
      unfold leE
      generalize fP (List.replicate rs.length none ++ [some 0]) = F0 at *
      generalize pgP rs H = P at *
      generalize ((rs.length : Nat) : Int) = N at *
      simp [hco]
    rw [ap_iR3, hd]
    exact hr
  unfold den_Pages_least
  rw [seq_nx S1, seq_nx (by rw [sFor_ok hI]; exact h3)]
  exact ⟨_, by simp [leE]; rfl⟩
end
end PL.K95

set_option Elab.async false
set_option linter.all false
set_option maxRecDepth 100000
set_option maxHeartbeats 4000000
namespace PL.K95
open PySem PySem.Spec L2 PL
set_option autoImplicit false
/-! ### best_pages -/
theorem dLoop_find {α : Type} {tgt : DenG} {body : DenS} (g : α → PV) (R : Env → Prop) (p : α → Bool) : ∀ (l : List α) (e : α) (ρ0 : Env), l.find? p = some e → R ρ0 →
    (∀ a ∈ l, ∀ ρ, R ρ → p a = false → ∃ ρ1 ρ2, tgt (g a) ρ = some ρ1 ∧ body ρ1 = .nx ρ2 ∧ R ρ2) → ∀ (Q : Env → Prop), (∀ ρ, R ρ → ∃ ρ1 ρ2, tgt (g e) ρ = some ρ1 ∧ body ρ1 = .bk ρ2 ∧ Q ρ2) → ∃ ρ, dLoop tgt body (l.map g) ρ0 = .nx ρ ∧ Q ρ
  | [], e, ρ0, h, _, _, _, _ => nomatch h
  | a :: l, e, ρ0, h, hR, hn, Q, hb => by
    rw [List.find?_cons] at h
    cases hp : p a with
    | true =>
      rw [hp] at h
      cases h
      obtain ⟨ρ1, ρ2, e1, e2, h2⟩ := hb ρ0 hR
      refine ⟨ρ2, ?_, h2⟩
      rw [List.map_cons]
      unfold dLoop
      rw [e1]
      simp only [e2]
    | false =>
      rw [hp] at h
      obtain ⟨ρ1, ρ2, e1, e2, h2⟩ := hn a (by simp) ρ0 hR hp
      obtain ⟨ρ, h3, h4⟩ := dLoop_find g R p l e ρ2 h h2 (fun b hb' => hn b (by simp [hb'])) Q hb
      refine ⟨ρ, ?_, h4⟩
      rw [List.map_cons]
      unfold dLoop
      rw [e1]
      simp only [e2]
      exact h3
section
variable {rs : List Rw} {H : Int}
def bpE (rs : List Rw) (H : Int) (F : List (Option Int)) (acc : List Nat) (s : Nat) (x : Sl × Sl) : Env := [.sh (rowsP rs), .sh (.int H), .sh (.int 0), .sh (pgP rs H), .sh (fP F), .ow (nP acc), .sh (.int (s : Int)), x.1, x.2]
theorem bp_2 (h : Rok rs) (hH1 : -1000 ≤ H) (hH2 : H ≤ 1000) {F : List (Option Int)} (hF : F.length = rs.length + 1) {s e : Nat} (h1 : s < e) (h2 : e ≤ rs.length) {t : Int} (ht : F.getD s none = some t) (acc : List Nat) :
    B_best_pages_2 (bpE rs H F acc s (.sh (.int (e : Int)), .sh (.int (wth rs s e)))) = (if hit (w := wth rs) (n := rs.length) (H := H) F s e = true then RS.bk else RS.nx) (bpE rs H F acc s (.sh (.int (e : Int)), .sh (.int (wth rs s e)))) := by
  have hx := ix_fP (F := F) (e := e) (by omega)
  have hxs := ix_fP (F := F) (e := s) (by omega)
  have hi := isN_opt true (F.getD e none)
  have hm := meth_bad h hH1 hH2 h1 h2 (dob := dVar 3) (da := dCons (dVar 7) (dCons (dVar 8) dNil)) (ρ := bpE rs H F acc s (.sh (.int (e : Int)), .sh (.int (wth rs s e)))) (ρ1 := bpE rs H F acc s (.sh (.int (e : Int)), .sh (.int (wth rs s e)))) (ρ2 := bpE rs H F acc s (.sh (.int (e : Int)), .sh (.int (wth rs s e)))) rfl rfl
  rw [ht] at hxs
  unfold hit
  rw [ht]
  unfold B_best_pages_2
  cases hv : F.getD e none with
  | none =>
    rw [hv] at hx hi
    unfold bpE
    generalize (e : Int) = z at *
    simp [hx, hi]
  | some t' =>
    rw [hv] at hx hi
    have hi : gIsN true (.int t') .non = some (.bl true) := hi
    have e1 : (some t = some (t' + cst (wth rs) rs.length H s e)) ↔ (t' + cst (wth rs) rs.length H s e = t) := ⟨fun z => (Option.some.inj z).symm, fun z => by rw [z]⟩
    unfold bpE at *
    simp only [e1]
    generalize cst (wth rs) rs.length H s e = c at *
    generalize wth rs s e = u at *
    generalize (e : Int) = z at *
    generalize (s : Int) = y at *
    by_cases hc : t' + c = t
    · simp [hx, hxs, hi, optI, hm, hc, -ap_dMeth]
    · simp [hx, hxs, hi, optI, hm, hc, -ap_dMeth]
theorem bp_1 (h : Rok rs) (hH1 : -1000 ≤ H) (hH2 : H ≤ 1000) {F : List (Option Int)} (hF : F.length = rs.length + 1) {s e : Nat} (hs : s < rs.length) {t : Int} (ht : F.getD s none = some t) (acc : List Nat) (ha : acc.length ≤ s) (x : Sl × Sl)
    (hf : (able (wth rs) rs.length H s).find? (hit (w := wth rs) (n := rs.length) (H := H) F s) = some e) : ∃ x', B_best_pages_1 (bpE rs H F acc s x) = .nx (bpE rs H F (acc ++ [e]) e x') := by
  have hn := h.len
  obtain ⟨ρ, h3, h4⟩ := dLoop_find (tgt := gTup (gsCons (gName 7) (gsCons (gName 8) gsNil))) (body := B_best_pages_2) (endP rs s) (fun ρ => ∃ x, ρ = bpE rs H F acc s x) (hit (w := wth rs) (n := rs.length) (H := H) F s) (able (wth rs) rs.length H s) e (bpE rs H F acc s x) hf ⟨x, rfl⟩
    (fun a ha' ρ hr hp => by
      obtain ⟨x, rfl⟩ := hr
      obtain ⟨k1, k2, k3⟩ := mem_able.mp ha'
      have := bp_2 h hH1 hH2 hF k1 k2 ht acc
      rw [hp] at this
      exact ⟨_, _, rfl, this, _, rfl⟩)
    (fun ρ => ρ = bpE rs H F acc s (.sh (.int (e : Int)), .sh (.int (wth rs s e))))
    (fun ρ hr => by
      obtain ⟨x, rfl⟩ := hr
      obtain ⟨k1, k2, k3⟩ := mem_able.mp (List.mem_of_find?_eq_some hf)
      have := bp_2 h hH1 hH2 hF k1 k2 ht acc
      rw [List.find?_some hf] at this
      exact ⟨_, _, rfl, this, rfl⟩)
  subst h4
  have hM : dMeth ("Pages" : Str) ("ends" : Str) F_Pages_ends (dVar 3) (dCons (dVar 6) dNil) (bpE rs H F acc s x) = .ok (endsP rs H s) (bpE rs H F acc s x) := meth_ends h (by omega) rfl rfl
  have hap := app_nat (l := acc) (i := e) (by omega)
  have hti : isT "list" (nP acc) = true := rfl
  refine ⟨(.sh (.int (e : Int)), .sh (.int (wth rs s e))), ?_⟩
  unfold B_best_pages_1
  rw [seq_nx (by rw [sFor_ok (xs := (able (wth rs) rs.length H s).map (endP rs s)) (ρ1 := bpE rs H F acc s x) (by rw [ap_iSeq, hM]; rfl)]; exact h3)]
  unfold bpE
  generalize (s : Int) = y at *
  generalize (e : Int) = z at *
  simp [hap, hti]
theorem bp_wh (h : Rok rs) (hH1 : -1000 ≤ H) (hH2 : H ≤ 1000) {F : List (Option Int)} (i : TInv (wth rs) rs.length H F 0) :
    ∀ (f fuel s : Nat) (t : Int) (acc : List Nat) (x : Sl × Sl), rs.length - s ≤ f → s ≤ rs.length → rs.length - s < fuel → acc.length ≤ s → F.getD s none = some t →
      ∃ x', dWhile (bVal (d2 gLt (dVar 6) (dN gLenN (dCons (dVar 0) dNil)))) B_best_pages_1 fuel (bpE rs H F acc s x) = .nx (bpE rs H F (acc ++ walk (wth rs) rs.length H F f s) rs.length x') := by
  have hN : gLenN [rowsP rs] = some (.int ((rs.length : Nat) : Int)) := len_rows h.len
  have c1 : ∀ acc s x, s < rs.length → bVal (d2 gLt (dVar 6) (dN gLenN (dCons (dVar 0) dNil))) (bpE rs H F acc s x) = .ok true (bpE rs H F acc s x) := fun acc s x hs => by
    have hs : (s : Int) < (rs.length : Nat) := by omega
    unfold bpE
    generalize ((rs.length : Nat) : Int) = N at *
    generalize (s : Int) = z at *
    simp [hN, hs, -ap_lenN]
  have c0 : ∀ acc x, bVal (d2 gLt (dVar 6) (dN gLenN (dCons (dVar 0) dNil))) (bpE rs H F acc rs.length x) = .ok false (bpE rs H F acc rs.length x) := fun acc x => by
    unfold bpE
    generalize ((rs.length : Nat) : Int) = N at *
    simp [hN, -ap_lenN]
  intro f
  induction f with
  | zero =>
    intro fuel s t acc x h1 h2 h3 h4 h5
    obtain ⟨fuel, rfl⟩ : ∃ k, fuel = k + 1 := ⟨fuel - 1, by omega⟩
    have hs : s = rs.length := by omega
    subst hs
    exact ⟨x, by rw [wh_end (c0 acc x)]; simp [walk]⟩
  | succ f ih =>
    intro fuel s t acc x h1 h2 h3 h4 h5
    obtain ⟨fuel, rfl⟩ : ∃ k, fuel = k + 1 := ⟨fuel - 1, by omega⟩
    by_cases hs : rs.length ≤ s
    · have hs2 : s = rs.length := by omega
      subst hs2
      have e0 : walk (wth rs) rs.length H F (f + 1) rs.length = [] := by unfold walk; rw [if_pos hs]
      exact ⟨x, by rw [wh_end (c0 acc x), e0, List.append_nil]⟩
    · have hlt : s < rs.length := by omega
      have hw := walk_ok i (f + 1) s t h1 h2 h5
      have e1 : walk (wth rs) rs.length H F (f + 1) s = match (able (wth rs) rs.length H s).find? (hit (w := wth rs) (n := rs.length) (H := H) F s) with
        | none => []
        | some e => e :: walk (wth rs) rs.length H F f e := by
        rw [show walk (wth rs) rs.length H F (f + 1) s = if rs.length ≤ s then [] else match (able (wth rs) rs.length H s).find? (hit (w := wth rs) (n := rs.length) (H := H) F s) with
          | none => []
          | some e => e :: walk (wth rs) rs.length H F f e from rfl, if_neg hs]
      cases hf : (able (wth rs) rs.length H s).find? (hit (w := wth rs) (n := rs.length) (H := H) F s) with
      | none =>
        rw [hf] at e1
        rw [e1] at hw
        have : s = rs.length := hw.1
        omega
      | some e =>
        rw [hf] at e1
        obtain ⟨k1, k2, k3⟩ := mem_able.mp (List.mem_of_find?_eq_some hf)
        obtain ⟨t', y1, y2⟩ := hit_some (List.find?_some hf)
        obtain ⟨x1, hb⟩ := bp_1 h hH1 hH2 i.len hlt h5 acc h4 x hf
        obtain ⟨x2, h6⟩ := ih fuel e t' (acc ++ [e]) x1 (by omega) k2 (by omega) (by simp; omega) y1
        rw [wh_step (c1 acc s x hlt) hb, h6, e1]
        exact ⟨x2, by simp⟩
def pagesP (o : Option RVal) : PV := match o with
  | none => .non
  | some v => .tup [nP v.2, .int v.1]
theorem F_best_pages_ok (h : Rok rs) (hH1 : 1 ≤ H) (hH2 : H ≤ 1000) : ∃ o, F_best_pages [rowsP rs, .int H, .int 0] = .ok (pagesP o) .non ∧ Best (wth rs) rs.length H o := by
  obtain ⟨F, i, hL⟩ := F_least_ok h (H := H) (by omega) hH2
  have hC := F_check_heights_ok h hH1
  have hM := make_ok (rs := rs) h.len H (da := dCons (dVar 0) (dCons (dVar 1) (dCons (dVar 2) dNil))) (ρ := [.sh (rowsP rs), .sh (.int H), .sh (.int 0), .un, .un, .un, .un, .un, .un]) (ρ1 := [.sh (rowsP rs), .sh (.int H), .sh (.int 0), .un, .un, .un, .un, .un, .un]) rfl
  have hLe : dMeth ("Pages" : Str) ("least" : Str) F_Pages_least (dVar 3) dNil [.sh (rowsP rs), .sh (.int H), .sh (.int 0), .sh (pgP rs H), .un, .un, .un, .un, .un] = .ok (fP F) [.sh (rowsP rs), .sh (.int H), .sh (.int 0), .sh (pgP rs H), .un, .un, .un, .un, .un] := meth_ok (by kernel_rfl) rfl rfl hL
  have hx0 := ix_fP (F := F) (e := 0) (by rw [i.len]; omega)
  have hx0 : gIx (fP F) (.int 0) = some (optI (F.getD 0 none)) := hx0
  have hi := isN_opt false (F.getD 0 none)
  refine ⟨_, ?_, walk_best i⟩
  refine run_ex (env := [.sh (rowsP rs), .sh (.int H), .sh (.int 0), .un, .un, .un, .un, .un, .un]) ?_
  unfold den_best_pages
  rw [seq_nx (ρ1 := [.sh (rowsP rs), .sh (.int H), .sh (.int 0), .un, .un, .un, .un, .un, .un]) (by simp [hC]), seq_nx (sSet_ok hM)]
  show ∃ ρ, sSeq _ _ [.sh (rowsP rs), .sh (.int H), .sh (.int 0), .sh (pgP rs H), .un, .un, .un, .un, .un] = _
  rw [seq_nx (sSet_ok hLe)]
  show ∃ ρ, sSeq _ _ [.sh (rowsP rs), .sh (.int H), .sh (.int 0), .sh (pgP rs H), .sh (fP F), .un, .un, .un, .un] = _
  cases hv : F.getD 0 none with
  | none =>
    rw [hv] at hx0 hi
    have hi : gIsN false .non .non = some (.bl true) := hi
    have hx0 : gIx (fP F) (.int 0) = some .non := hx0
    exact ⟨[.sh (rowsP rs), .sh (.int H), .sh (.int 0), .sh (pgP rs H), .sh (fP F), .un, .un, .un, .un], by rw [seq_rt (p := .non) (ρ1 := [.sh (rowsP rs), .sh (.int H), .sh (.int 0), .sh (pgP rs H), .sh (fP F), .un, .un, .un, .un]) (by simp [hx0, hi])]; rfl⟩
  | some t =>
    rw [hv] at hx0 hi
    have hi : gIsN false (.int t) .non = some (.bl false) := hi
    have hx0 : gIx (fP F) (.int 0) = some (.int t) := hx0
    obtain ⟨x', h6⟩ := bp_wh h (H := H) (by omega) hH2 i rs.length (rs.length + 2) 0 t [] (.un, .un) (by omega) (by omega) (by omega) (by simp) hv
    have hmu : muD 0 6 (bpE rs H F [] 0 (.un, .un)) = rs.length + 2 := by
      show (((rs.map rowP).length : Nat) - ((0 : Nat) : Int)).toNat + 2 = _
      rw [List.length_map]; omega
    have hW : sWhile (muD 0 6) (bVal (d2 gLt (dVar 6) (dN gLenN (dCons (dVar 0) dNil)))) B_best_pages_1 (bpE rs H F [] 0 (.un, .un)) = .nx (bpE rs H F ([] ++ walk (wth rs) rs.length H F rs.length 0) rs.length x') := by
      unfold sWhile; rw [hmu]; exact h6
    rw [seq_nx (ρ1 := [.sh (rowsP rs), .sh (.int H), .sh (.int 0), .sh (pgP rs H), .sh (fP F), .un, .un, .un, .un]) (by simp [hx0, hi]),
      seq_nx (ρ1 := [.sh (rowsP rs), .sh (.int H), .sh (.int 0), .sh (pgP rs H), .sh (fP F), .ow (nP []), .un, .un, .un]) (by simp [nP]),
      seq_nx (ρ1 := bpE rs H F [] 0 (.un, .un)) (by simp [bpE]), seq_nx hW]
    rw [List.nil_append]
    unfold bpE
    exact ⟨_, by simp [hx0, pagesP, szn (show 2 ≤ 1000000 by omega)]; rfl⟩
end
end PL.K95

set_option Elab.async false
set_option linter.all false
set_option maxRecDepth 100000
set_option maxHeartbeats 4000000
namespace PL.K95
open PySem PySem.Spec L2 PL
set_option autoImplicit false
/-! ### a comprehension whose name is in use outside -/
theorem back_allS {ρ : Env} {i : Nat} {s : Sl} (h : ρ[i]? = some s) (hs : clean s = s) : backE [i] ρ ((ρ.set i .un).map Sl.lock) = ρ := by
  unfold backE
  refine List.ext_getElem (by simp) fun j h1 h2 => ?_
  rw [List.getElem_map, List.getElem_range]
  by_cases hj : j = i
  · subst hj
    obtain ⟨hi, e2⟩ := List.getElem?_eq_some_iff.mp h
    simp [h2, e2, hs]
  · have e : [i].contains j = false := by simp [hj]
    rw [e]
    have hji : ¬ i = j := fun z => hj z.symm
    simp [h2, back_lock, List.getElem_set, hji]
theorem dLc_okS {α : Type} {i : Nat} {ρ : Env} {di : DenL} {E : Den} (g f : α → PV) (l : List α) {s : Sl} (hdi : di ρ = .ok (l.map g) ρ) (h0 : ρ[i]? = some s) (hs : clean s = s) (hl : l.length ≤ 1000000) (hE : ∀ c ∈ l, E (((ρ.set i .un).map Sl.lock).set i (.sh (g c))) = .ok (f c) (((ρ.set i .un).map Sl.lock).set i (.sh (g c)))) :
    dLc [i] di (gName i) bYes E ρ = .ok (.lst (l.map f)) ρ := by
  have hi := (List.getElem?_eq_some_iff.mp h0).1
  have h1 : ((ρ.set i .un).map Sl.lock)[i]? = some .un := by rw [List.getElem?_map, List.getElem?_set_self hi]; rfl
  have e1 : lockE [i] ρ = (ρ.set i .un).map Sl.lock := by
    show (ρ.map Sl.lock).set i .un = _
    rw [List.map_set]
    rfl
  rw [ap_dLc, hdi]
  show (match lcLoop [i] (gName i) bYes E (l.map g) (lockE [i] ρ) with
    | some (ys, ρ2) => if ys.length ≤ 1000000 then Rs.ok (PV.lst ys) (backE [i] ρ ρ2) else .bad
    | none => .bad) = _
  rw [e1, lc_pure g f l h1 (lock_noOw _) hE]
  simp only [List.length_map, hl, if_true, back_allS h0 hs]
/-! ### used -/
section
variable {rs : List Rw}
theorem gsum_eq : (rs.map fun r => (r.1 : Int) + (r.2 : Int)).sum = gsum rs := rfl
theorem F_used_ok (h : Rok rs) : F_used [rowsP rs, .int 0] = .ok (.int (gsum rs - ((rs[0]'h.ne).2 : Int))) .non := by
  have hn := h.len
  obtain ⟨ρ, h3, s3, h4, hcl⟩ := dLoop_foldR (tgt := gName 3) (body := B_used_1) (σ := Unit)
    (fun _ ρ => ∃ s3, ρ = [.sh (rowsP rs), .sh (.int 0), .ow (.lst []), s3, .un] ∧ clean s3 = s3) rowP (fun s _ => s) rs
    (fun _ r ρ hr hx => by
      obtain ⟨s3, rfl, _⟩ := hr
      have e : gExtendU (.lst []) [.tup []] = some (.lst [], .non) := by
        show (if ([] : List PV).length + ([] : List PV).length ≤ sizeLine then some (PV.lst ([] ++ []), PV.non) else none) = _
        rw [if_pos (szn (by simp))]
        rfl
      have e3 : gIx (rowP r) (.int 3) = some (.tup []) := rfl
      have ht : isT "list" (.lst []) = true := rfl
      refine ⟨[.sh (rowsP rs), .sh (.int 0), .ow (.lst []), .sh (rowP r), .un], [.sh (rowsP rs), .sh (.int 0), .ow (.lst []), .sh (rowP r), .un], rfl, .inl ?_, _, rfl, rfl⟩
      unfold B_used_1
      generalize rowP r = R at *
      simp [e3, e, ht])
    (s0 := ()) (ρ0 := [.sh (rowsP rs), .sh (.int 0), .ow (.lst []), .un, .un]) ⟨_, rfl, rfl⟩
  subst h4
  have tr : truth (rowsP rs) = some true := by
    have := h.ne
    cases rs with
    | nil => simp at this
    | cons r l => rfl
  have hI0 := ix_rows (rs := rs) (k := 0) h.ne
  have hI0 : gIx (rowsP rs) (.int 0) = some (rowP (rs[0]'h.ne)) := hI0
  have hI1 : gIx (rowP (rs[0]'h.ne)) (.int 1) = some (.int ((rs[0]'h.ne).2 : Int)) := rfl
  refine run_ex (env := [.sh (rowsP rs), .sh (.int 0), .un, .un, .un]) ?_
  unfold den_used
  rw [seq_nx (ρ1 := [.sh (rowsP rs), .sh (.int 0), .un, .un, .un]) (by simp [tr]),
    seq_nx (ρ1 := [.sh (rowsP rs), .sh (.int 0), .ow (.lst []), .un, .un]) (by simp),
    seq_nx (by rw [sFor_ok (xs := rs.map rowP) (ρ1 := [.sh (rowsP rs), .sh (.int 0), .ow (.lst []), .un, .un]) (by simp [rowsP])]; exact h3)]
  have S4 : sSet 4 (dSub (dN gSumN (dCons (dLc [3] (iSeq (dVar 0)) (gName 3) bYes E_used_2) dNil)) (d2 gIx (d2 gIx (dVar 0) (dC (.int 0))) (dC (.int 1)))) [.sh (rowsP rs), .sh (.int 0), .ow (.lst []), s3, .un] = .nx [.sh (rowsP rs), .sh (.int 0), .ow (.lst []), s3, .sh (.int (gsum rs - ((rs[0]'h.ne).2 : Int)))] := by
    have L : dLc [3] (iSeq (dVar 0)) (gName 3) bYes E_used_2 [.sh (rowsP rs), .sh (.int 0), .ow (.lst []), s3, .un] = .ok (.lst (rs.map fun r => .int ((r.1 : Int) + (r.2 : Int)))) [.sh (rowsP rs), .sh (.int 0), .ow (.lst []), s3, .un] :=
      dLc_okS rowP (fun r => .int ((r.1 : Int) + (r.2 : Int))) rs (by simp [rowsP]) rfl hcl (by omega) (fun r _ => by
        have e0 : gIx (rowP r) (.int 0) = some (.int (r.1 : Int)) := rfl
        have e1 : gIx (rowP r) (.int 1) = some (.int (r.2 : Int)) := rfl
        generalize rowP r = R at *
        simp [E_used_2, Sl.lock, e0, e1])
    have hs := sum_mapF (fun r : Rw => (r.1 : Int) + (r.2 : Int)) rs
    rw [gsum_eq] at hs
    simp [L, hs, hI0, hI1, -ap_dLc]
  rw [seq_nx S4]
  have hl0 : gLen (.lst []) = some (.int 0) := by
    show gLen (.lst ([] : List PV)) = _
    simp
  have hsu : gSumU [.lst []] = some (.int 0) := rfl
  generalize gsum rs - ((rs[0]'h.ne).2 : Int) = G at *
  exact ⟨_, by simp [hl0, hsu, smI (i := 0) (by omega) (by omega)]; rfl⟩
end
end PL.K95

set_option Elab.async false
set_option linter.all false
set_option maxRecDepth 100000
set_option maxHeartbeats 4000000
namespace PL.K95
open PySem PySem.Spec L2 PL
set_option autoImplicit false
/-! ### balanced -/
theorem dLoop_findrt {α : Type} {tgt : DenG} {body : DenS} (g : α → PV) (R : Env → Prop) (p : α → Bool) (z : PV) : ∀ (l : List α) (e : α) (ρ0 : Env), l.find? p = some e → R ρ0 →
    (∀ a ∈ l, ∀ ρ, R ρ → p a = false → ∃ ρ1 ρ2, tgt (g a) ρ = some ρ1 ∧ body ρ1 = .nx ρ2 ∧ R ρ2) → (∀ ρ, R ρ → ∃ ρ1 ρ2, tgt (g e) ρ = some ρ1 ∧ body ρ1 = .rt z ρ2) → ∃ ρ, dLoop tgt body (l.map g) ρ0 = .rt z ρ
  | [], e, ρ0, h, _, _, _ => nomatch h
  | a :: l, e, ρ0, h, hR, hn, hb => by
    rw [List.find?_cons] at h
    cases hp : p a with
    | true =>
      rw [hp] at h
      cases h
      obtain ⟨ρ1, ρ2, e1, e2⟩ := hb ρ0 hR
      refine ⟨ρ2, ?_⟩
      rw [List.map_cons]
      unfold dLoop
      rw [e1]
      simp only [e2]
    | false =>
      rw [hp] at h
      obtain ⟨ρ1, ρ2, e1, e2, h2⟩ := hn a (by simp) ρ0 hR hp
      obtain ⟨ρ, h3⟩ := dLoop_findrt g R p z l e ρ2 h h2 (fun b hb' => hn b (by simp [hb'])) hb
      refine ⟨ρ, ?_⟩
      rw [List.map_cons]
      unfold dLoop
      rw [e1]
      simp only [e2]
      exact h3
abbrev HD := List (Int × Unit)
def htP (D : HD) : PV := dA false PV.int (fun _ : Unit => PV.bl true) D
section
variable {rs : List Rw}
def topH (rs : List Rw) (g0 : Int) : Int := (gsum rs - g0) + (rs.map fun r => (r.2 : Int)).sum
theorem wth_top (h : Rok rs) {s e : Nat} (hs : s < e) (he : e ≤ rs.length) : wth rs s e ≤ topH rs ((rs[0]'h.ne).2 : Int) := by
  have a := wth_mono rs s (rs.length - e) e (by omega) (by omega)
  rw [show e + (rs.length - e) = rs.length by omega] at a
  have b := wth_anti rs s 0 rs.length (by omega) (Nat.le_refl _)
  rw [Nat.zero_add] at b
  have c := wth_cons rs h.ne (Nat.le_refl _)
  have d : rseg rs 0 rs.length = rs := by unfold rseg; simp
  have e1 : gsum rs = (rs[0]'h.ne).1 + (rs[0]'h.ne).2 + gsum (rseg rs (0 + 1) rs.length) := by
    have e2 := rseg_cons rs h.ne (Nat.le_refl _)
    rw [d] at e2
    have e3 := congrArg gsum e2
    rw [gsum_cons] at e3
    exact e3
  have f : 0 ≤ (rs.map fun r => (r.2 : Int)).sum := (sum_bd (fun r : Rw => (r.2 : Int)) 3 rs (fun r hr => ⟨by omega, by have := h.g r hr; omega⟩)).1
  unfold topH
  omega
def baE (rs : List Rw) (cols : Nat) (D : HD) (s3 s4 s5 : Sl) : Env := [.sh (rowsP rs), .sh (.int (cols : Int)), .ow (htP D), s3, s4, s5, .un, .un, .un]
theorem ba_obj (h : Rok rs) (cols : Nat) (D : HD) (s3 s4 s5 : Sl) : dMake ("Pages" : Str) F_Pages___init__ (dCons (dVar 0) (dCons (dAdd (dCall F_used (dCons (dVar 0) (dCons (dC (.int 0)) dNil))) (dN gSumN (dCons (dLc [8] (iSeq (dVar 0)) (gName 8) bYes E_balanced_3) dNil))) (dCons (dC (.int 0)) dNil))) (baE rs cols D s3 s4 s5) = .ok (pgP rs (topH rs ((rs[0]'h.ne).2 : Int))) (baE rs cols D s3 s4 s5) := by
  have hn := h.len
  refine make_ok hn _ ?_
  have L : dLc [8] (iSeq (dVar 0)) (gName 8) bYes E_balanced_3 (baE rs cols D s3 s4 s5) = .ok (.lst (rs.map fun r => .int (r.2 : Int))) (baE rs cols D s3 s4 s5) :=
    dLc_ok rowP (fun r => .int (r.2 : Int)) rs (by simp [rowsP, baE]) rfl (by omega) (fun r _ => by
      have e1 : gIx (rowP r) (.int 1) = some (.int (r.2 : Int)) := rfl
      generalize rowP r = R at *
      cases s3 <;> cases s4 <;> cases s5 <;> simp [E_balanced_3, Sl.lock, baE, e1])
  have hs := sum_mapF (fun r : Rw => (r.2 : Int)) rs
  have hU := F_used_ok h
  unfold topH
  unfold baE at *
  generalize (rs.map fun r => (r.2 : Int)).sum = S at *
  generalize gsum rs - ((rs[0]'h.ne).2 : Int) = G at *
  simp [L, hs, hU, -ap_dLc]
theorem ba_2 (cols : Nat) (D : HD) (hD : D.length < 1000) (s3 s4 : Sl) (v : Int) : B_balanced_2 (baE rs cols D s3 s4 (.sh (.int v))) = .nx (baE rs cols (putA D v ()) s3 s4 (.sh (.int v))) := by
  have pt := put_A (vP := fun _ : Unit => PV.bl true) kEq_int D v ()
  have gm := good_int v
  have hz : D.length < 100000 := by omega
  have pt : dPutQ (D.map fun kv => PV.int kv.1) (D.map fun _ => PV.bl true) (.int v) (.bl true) = _ := pt
  simp [B_balanced_2, baE, htP, dA, gm, hz, pt, Sl.with]
theorem keys_put (D : HD) (v k : Int) : k ∈ (putA D v ()).map (·.1) ↔ k ∈ D.map (·.1) ∨ k = v := by
  rw [putA_keys]
  split
  · rename_i h
    exact ⟨.inl, fun z => z.elim id fun z => by rw [z]; exact h⟩
  · rw [List.mem_append, List.mem_singleton]
theorem ba_1 (h : Rok rs) (cols : Nat) {D : HD} (nd : (D.map (·.1)).Nodup) (hD : D.length < 900) {s : Nat} (hs : s < rs.length) (s4 s5 : Sl) :
    ∃ D' t4 t5, B_balanced_1 (baE rs cols D (.sh (.int (s : Int))) s4 s5) = .nx (baE rs cols D' (.sh (.int (s : Int))) t4 t5) ∧ (D'.map (·.1)).Nodup ∧ D'.length ≤ D.length + (rs.length - s) ∧ ∀ k, k ∈ D'.map (·.1) ↔ k ∈ D.map (·.1) ∨ ∃ e, s < e ∧ e ≤ rs.length ∧ k = wth rs s e := by
  have hn := h.len
  let T := topH rs ((rs[0]'h.ne).2 : Int)
  have hA : ∀ e, e ∈ able (wth rs) rs.length T s ↔ s < e ∧ e ≤ rs.length := fun e => by
    rw [mem_able]
    exact ⟨fun z => ⟨z.1, z.2.1⟩, fun z => ⟨z.1, z.2, wth_top h z.1 z.2⟩⟩
  have hal : (able (wth rs) rs.length T s).length ≤ rs.length - s := by
    unfold able
    have := List.length_filter_le (fun e => decide (wth rs s e ≤ T)) (List.range' (s + 1) (rs.length - s))
    simpa using this
  obtain ⟨ρ, h3, D', t4, t5, h4, i1, i2, i3⟩ := dLoop_foldP (tgt := gTup (gsCons (gName 4) (gsCons (gName 5) gsNil))) (body := B_balanced_2)
    (fun (f : List Nat) ρ => ∃ D' s4 s5, ρ = baE rs cols D' (.sh (.int (s : Int))) s4 s5 ∧ (D'.map (·.1)).Nodup ∧ D'.length ≤ D.length + f.length ∧ ∀ k, k ∈ D'.map (·.1) ↔ k ∈ D.map (·.1) ∨ ∃ e ∈ f, k = wth rs s e)
    (endP rs s) (fun f e => f ++ [e]) [] (able (wth rs) rs.length T s)
    (fun pre e post ρ e1 hr => by
      obtain ⟨D', s4, s5, rfl, i1, i2, i3⟩ := hr
      have e2 : pre.foldl (fun f e => f ++ [e]) [] = pre := foldl_snoc pre []
      rw [e2] at i2 i3 ⊢
      have hpl : pre.length ≤ (able (wth rs) rs.length T s).length := by rw [e1]; simp
      have hone := ba_2 (rs := rs) cols D' (by omega) (.sh (.int (s : Int))) (.sh (.int (e : Int))) (wth rs s e)
      refine ⟨_, _, rfl, .inl hone, _, _, _, rfl, putA_nodup i1, ?_, fun k => ?_⟩
      · have := putA_len D' (wth rs s e) ()
        rw [List.length_append, List.length_singleton]
        omega
      · rw [keys_put, i3]
        constructor
        · rintro ((z | ⟨x, x1, x2⟩) | z)
          · exact .inl z
          · exact .inr ⟨x, by simp [x1], x2⟩
          · exact .inr ⟨e, by simp, z⟩
        · rintro (z | ⟨x, x1, x2⟩)
          · exact .inl (.inl z)
          · rcases List.mem_append.mp x1 with x1 | x1
            · exact .inl (.inr ⟨x, x1, x2⟩)
            · exact .inr (by rw [x2, List.mem_singleton.mp x1]))
    (ρ0 := baE rs cols D (.sh (.int (s : Int))) s4 s5) ⟨D, _, _, rfl, nd, by simp, fun k => by simp⟩
  have e2 := foldl_snoc (able (wth rs) rs.length T s) []
  rw [e2, List.nil_append] at i2 i3
  subst h4
  have hM : dMeth ("Pages" : Str) ("ends" : Str) F_Pages_ends (dMake ("Pages" : Str) F_Pages___init__ (dCons (dVar 0) (dCons (dAdd (dCall F_used (dCons (dVar 0) (dCons (dC (.int 0)) dNil))) (dN gSumN (dCons (dLc [8] (iSeq (dVar 0)) (gName 8) bYes E_balanced_3) dNil))) (dCons (dC (.int 0)) dNil)))) (dCons (dVar 3) dNil) (baE rs cols D (.sh (.int (s : Int))) s4 s5) = .ok (endsP rs T s) (baE rs cols D (.sh (.int (s : Int))) s4 s5) := meth_ends h (by omega) (ba_obj h cols D _ s4 s5) rfl
  refine ⟨D', t4, t5, ?_, i1, by omega, fun k => ?_⟩
  · unfold B_balanced_1
    rw [sFor_ok (xs := (able (wth rs) rs.length T s).map (endP rs s)) (ρ1 := baE rs cols D (.sh (.int (s : Int))) s4 s5) (by rw [ap_iSeq, hM]; rfl)]
    exact h3
  · rw [i3]
    constructor
    · rintro (z | ⟨e, e1, e2⟩)
      · exact .inl z
      · exact .inr ⟨e, ((hA e).mp e1).1, ((hA e).mp e1).2, e2⟩
    · rintro (z | ⟨e, e1, e2, e3⟩)
      · exact .inl z
      · exact .inr ⟨e, (hA e).mpr ⟨e1, e2⟩, e3⟩
end
end PL.K95

set_option Elab.async false
set_option linter.all false
set_option maxRecDepth 100000
set_option maxHeartbeats 4000000
namespace PL.K95
open PySem PySem.Spec L2 PL
set_option autoImplicit false
def gd (w : Nat → Nat → Int) (n cols : Nat) (v : Int) : Bool := match grd w n v n 0 with
  | some r => decide (r.length ≤ cols)
  | none => false
theorem gd_iff {w : Nat → Nat → Int} {n cols : Nat} {v : Int} : gd w n cols v = true ↔ ∃ r, grd w n v n 0 = some r ∧ r.length ≤ cols := by
  unfold gd
  cases grd w n v n 0 with
  | none => simp
  | some r => simp
theorem find_le {l : List Int} {p : Int → Bool} (hp : l.Pairwise (· ≤ ·)) {e : Int} (h : l.find? p = some e) : ∀ x ∈ l, p x = true → e ≤ x := by
  induction l with
  | nil => cases h
  | cons a l ih =>
    rw [List.find?_cons] at h
    rcases List.pairwise_cons.mp hp with ⟨h1, h2⟩
    cases hpa : p a with
    | true =>
      rw [hpa] at h
      cases h
      intro x hx _
      rcases List.mem_cons.mp hx with rfl | hx
      · exact Int.le_refl _
      · exact h1 x hx
    | false =>
      rw [hpa] at h
      intro x hx hpx
      rcases List.mem_cons.mp hx with rfl | hx
      · rw [hpa] at hpx; cases hpx
      · exact ih h2 h x hx hpx
section
variable {rs : List Rw}
theorem F_balanced_ok (h : Rok rs) {cols : Nat} (hc : 1 ≤ cols) : ∃ v r, F_balanced [rowsP rs, .int (cols : Int)] = .ok (.tup [.int v, nP r]) .non ∧ grd (wth rs) rs.length v rs.length 0 = some r ∧ r.length ≤ cols ∧
    ∀ s e, s < e → e ≤ rs.length → gd (wth rs) rs.length cols (wth rs s e) = true → v ≤ wth rs s e := by
  have hn := h.len
  have hC := F_check_columns_ok h (H := (cols : Int)) (by omega)
  have tr : truth (rowsP rs) = some true := by
    have := h.ne
    cases rs with
    | nil => simp at this
    | cons r l => rfl
  obtain ⟨ρ, h3, D, s3, s4, s5, h4, i1, i2, i3⟩ := dLoop_foldP (tgt := gName 3) (body := B_balanced_1)
    (fun (f : List Nat) ρ => ∃ D s3 s4 s5, ρ = baE rs cols D s3 s4 s5 ∧ (D.map (·.1)).Nodup ∧ (D.length ≤ 7 * f.length + 1 ∧ (f.length = 0 → D.length = 0)) ∧ ∀ k, k ∈ D.map (·.1) ↔ ∃ u e, u < f.length ∧ u < e ∧ e ≤ rs.length ∧ k = wth rs u e)
    (fun k : Nat => PV.int (k : Int)) (fun f e => f ++ [e]) [] (List.range rs.length)
    (fun pre e post ρ e1 hr => by
      obtain ⟨D, s3, s4, s5, rfl, i1, i2, i3⟩ := hr
      have e2 : pre.foldl (fun f e => f ++ [e]) [] = pre := foldl_snoc pre []
      rw [e2] at i2 i3 ⊢
      have hpl : pre.length < rs.length := by
        have := congrArg List.length e1
        simp at this
        omega
      have he : e = pre.length := by
        have e3 : (List.range rs.length)[pre.length]? = some e := by rw [e1]; simp
        rw [List.getElem?_range hpl] at e3
        cases e3
        rfl
      subst he
      obtain ⟨D', t4, t5, a1, a2, a3, a4⟩ := ba_1 h cols i1 (by omega) hpl s4 s5
      refine ⟨_, _, rfl, .inl a1, D', _, t4, t5, rfl, a2, ?_, fun k => ?_⟩
      · rw [List.length_append, List.length_singleton]
        refine ⟨?_, fun z => by omega⟩
        by_cases hz : pre.length = 0
        · have := i2.2 hz
          omega
        · omega
      · rw [a4, i3, List.length_append, List.length_singleton]
        constructor
        · rintro (⟨u, e, x1, x2, x3, x4⟩ | ⟨e, x1, x2, x3⟩)
          · exact ⟨u, e, by omega, x2, x3, x4⟩
          · exact ⟨pre.length, e, by omega, x1, x2, x3⟩
        · rintro ⟨u, e, x1, x2, x3, x4⟩
          by_cases hu : u < pre.length
          · exact .inl ⟨u, e, hu, x2, x3, x4⟩
          · have : u = pre.length := by omega
            subst this
            exact .inr ⟨e, x2, x3, x4⟩)
    (ρ0 := baE rs cols [] .un .un .un) ⟨[], _, _, _, rfl, by simp, by simp, fun k => by simp⟩
  have e2 := foldl_snoc (List.range rs.length) []
  rw [e2, List.nil_append, List.length_range] at i2 i3
  subst h4
  have hlen : (D.map (·.1)).length < 64 := by rw [List.length_map]; omega
  have hso : dSortDK (dVar 2) (baE rs cols D s3 s4 s5) = .ok (.lst ((sortI (D.map (·.1))).map .int)) [.sh (rowsP rs), .sh (.int (cols : Int)), .sh (htP D), s3, s4, s5, .un, .un, .un] := by
    have hi : ints? (D.map fun kv => PV.int kv.1) = some (D.map (·.1)) := ints_mapF (fun kv : Int × Unit => kv.1) D
    rw [ap_dSortDK]
    show (match ints? (D.map fun kv => PV.int kv.1) with
      | some ns => if ns.length < 64 then Rs.ok (PV.lst ((sortI ns).map .int)) _ else Rs.bad
      | none => Rs.bad) = _
    rw [hi]
    simp only [hlen, if_true]
    rfl
  have hmem : ∀ k, k ∈ sortI (D.map (·.1)) ↔ ∃ u e, u < e ∧ e ≤ rs.length ∧ k = wth rs u e := fun k => by
    rw [(sortI_perm _).mem_iff, i3]
    constructor
    · rintro ⟨u, e, _, x2, x3, x4⟩
      exact ⟨u, e, x2, x3, x4⟩
    · rintro ⟨u, e, x2, x3, x4⟩
      exact ⟨u, e, by omega, x2, x3, x4⟩
  have hsrt := sortI_le (D.map (·.1))
  generalize sortI (D.map (·.1)) = L at *
  -- the whole as one page
  have hall : gd (wth rs) rs.length cols (wth rs 0 rs.length) = true := by
    obtain ⟨r, g1, g2⟩ := grd_short (wth_wid rs).anti [rs.length] 0 0 rs.length (H := wth rs 0 rs.length) (by omega) (by omega) (by omega) ⟨⟨h.ne, Nat.le_refl _, Int.le_refl _⟩, rfl⟩
    exact gd_iff.mpr ⟨r, g1, by simp at g2; omega⟩
  cases hf : L.find? (gd (wth rs) rs.length cols) with
  | none =>
    exact ((List.find?_eq_none.mp hf _ ((hmem _).mpr ⟨0, rs.length, h.ne, Nat.le_refl _, rfl⟩)) hall).elim
  | some v =>
    obtain ⟨r, g1, g2⟩ := gd_iff.mp (List.find?_some hf)
    have hF := fun (v : Int) => F_filled_columns_ok h (H := v) cols
    obtain ⟨ρ2, h5⟩ := dLoop_findrt (tgt := gName 6) (body := B_balanced_4) PV.int (fun ρ => ∃ s6 s7, ρ = [.sh (rowsP rs), .sh (.int (cols : Int)), .sh (htP D), s3, s4, s5, s6, s7, .un]) (gd (wth rs) rs.length cols) (.tup [.int v, nP r]) L v [.sh (rowsP rs), .sh (.int (cols : Int)), .sh (htP D), s3, s4, s5, .un, .un, .un] hf ⟨_, _, rfl⟩
      (fun a ha ρ hr hp => by
        obtain ⟨s6, s7, rfl⟩ := hr
        have hFa := hF a
        have e0 : gresC (grd (wth rs) rs.length a rs.length 0) cols = .non := by
          unfold gd at hp
          unfold gresC
          cases hq : grd (wth rs) rs.length a rs.length 0 with
          | none => rfl
          | some r => rw [hq] at hp; simp at hp; simp; omega
        rw [e0] at hFa
        refine ⟨_, [.sh (rowsP rs), .sh (.int (cols : Int)), .sh (htP D), s3, s4, s5, .sh (.int a), .sh .non, .un], rfl, ?_, _, _, rfl⟩
        show B_balanced_4 [.sh (rowsP rs), .sh (.int (cols : Int)), .sh (htP D), s3, s4, s5, .sh (.int a), s7, .un] = _
        simp [B_balanced_4, hFa, isN_non])
      (fun ρ hr => by
        obtain ⟨s6, s7, rfl⟩ := hr
        have hFa := hF v
        have e0 : gresC (grd (wth rs) rs.length v rs.length 0) cols = nP r := by
          unfold gresC
          rw [g1]
          simp [g2]
        rw [e0] at hFa
        have hne : gIsN true (nP r) .non = some (.bl true) := rfl
        refine ⟨_, [.sh (rowsP rs), .sh (.int (cols : Int)), .sh (htP D), s3, s4, s5, .sh (.int v), .sh (nP r), .un], rfl, ?_⟩
        show B_balanced_4 [.sh (rowsP rs), .sh (.int (cols : Int)), .sh (htP D), s3, s4, s5, .sh (.int v), s7, .un] = _
        simp [B_balanced_4, hFa, hne, szn (show 2 ≤ 1000000 by omega)])
    refine ⟨v, r, run_ex (env := [.sh (rowsP rs), .sh (.int (cols : Int)), .un, .un, .un, .un, .un, .un, .un]) ?_, g1, g2, fun s e x1 x2 x3 => find_le hsrt hf _ ((hmem _).mpr ⟨s, e, x1, x2, rfl⟩) x3⟩
    unfold den_balanced
    have hN := len_rows hn
    rw [seq_nx (ρ1 := [.sh (rowsP rs), .sh (.int (cols : Int)), .un, .un, .un, .un, .un, .un, .un]) (by simp [hC]),
      seq_nx (ρ1 := [.sh (rowsP rs), .sh (.int (cols : Int)), .un, .un, .un, .un, .un, .un, .un]) (by simp [tr]),
      seq_nx (ρ1 := baE rs cols [] .un .un .un) (by simp [baE, htP, dA]),
      seq_nx (by rw [sFor_ok (xs := (List.range rs.length).map fun k : Nat => PV.int (k : Int)) (ρ1 := baE rs cols [] .un .un .un) (by simp [baE, hN, rg1_nat (show rs.length ≤ 1000000000 by omega), rangeP_map, -ap_lenN])]; exact h3)]
    exact ⟨ρ2, by rw [seq_rt (by rw [sFor_ok (xs := L.map .int) (ρ1 := [.sh (rowsP rs), .sh (.int (cols : Int)), .sh (htP D), s3, s4, s5, .un, .un, .un]) (by rw [ap_iSeq, hso]; rfl)]; exact h5)]⟩
end
end PL.K95

set_option Elab.async false
set_option linter.all false
set_option maxRecDepth 100000
set_option maxHeartbeats 4000000
namespace PL.K95
open PySem PySem.Spec L2 PL
set_option autoImplicit false
/-! ### the plain law -/
section
variable {rs : List Rw}
def mxOk (rs : List Rw) (m : Nat) : Prop := (∃ r ∈ rs, r.1 = m) ∧ ∀ r ∈ rs, r.1 ≤ m
theorem mx_hts {m : Nat} (hm : mxOk rs m) {i : Nat} (hi : i < rs.length) : hts rs i ≤ (m : Int) := by
  rw [hts_eq hi]
  have := hm.2 _ (List.getElem_mem hi)
  omega
theorem chn_max {m : Nat} (hm : mxOk rs m) {H : Int} : (∃ r, Chn (wth rs) rs.length H 0 rs.length r) ↔ (m : Int) ≤ H := by
  constructor
  · rintro ⟨r, hr⟩
    obtain ⟨x, hx, rfl⟩ := hm.1
    obtain ⟨i, hi, e⟩ := List.mem_iff_getElem.mp hx
    have := chn_cov (wth_wid rs) r 0 hr i (by omega) hi
    rw [hts_eq hi, e] at this
    exact this
  · intro h
    exact chn_all (wth_wid rs) (fun i hi => by have := mx_hts hm hi; omega) rs.length 0 (by omega)
theorem grd_max (h : Rok rs) {m : Nat} (hm : mxOk rs m) {H : Int} (hH : (m : Int) ≤ H) : ∃ r, grd (wth rs) rs.length H rs.length 0 = some r := by
  obtain ⟨r, hr⟩ := (chn_max hm).mpr hH
  obtain ⟨r', h1, _⟩ := grd_short (wth_wid rs).anti r 0 0 rs.length (by omega) (by omega) (by omega) hr
  exact ⟨r', h1⟩
theorem gd_max {m cols : Nat} (hm : mxOk rs m) {H : Int} (hg : gd (wth rs) rs.length cols H = true) : (m : Int) ≤ H := by
  obtain ⟨r, h1, _⟩ := gd_iff.mp hg
  exact (chn_max hm).mp ⟨r, grd_chn _ _ _ (by omega) (by omega) h1⟩
theorem gd_big (h : Rok rs) {cols : Nat} (hc : 1 ≤ cols) {H : Int} (hH : wth rs 0 rs.length ≤ H) : gd (wth rs) rs.length cols H = true := by
  obtain ⟨r, g1, g2⟩ := grd_short (wth_wid rs).anti [rs.length] 0 0 rs.length (H := H) (by omega) (by omega) (by omega) ⟨⟨h.ne, Nat.le_refl _, hH⟩, rfl⟩
  exact gd_iff.mpr ⟨r, g1, by simp at g2; omega⟩
theorem width_eq (h : Rok rs) {m cols : Nat} (hm : mxOk rs m) {v : Int} {r : List Nat} (g1 : grd (wth rs) rs.length v rs.length 0 = some r) (g2 : r.length ≤ cols) (g3 : ∀ s e, s < e → e ≤ rs.length → gd (wth rs) rs.length cols (wth rs s e) = true → v ≤ wth rs s e)
    {W : Nat} (w1 : gd (wth rs) rs.length cols (W : Int) = true) (w2 : ∀ W' : Nat, m ≤ W' → W' < W → ¬ gd (wth rs) rs.length cols (W' : Int) = true) : v = (W : Int) := by
  have gv : gd (wth rs) rs.length cols v = true := gd_iff.mpr ⟨r, g1, g2⟩
  have h1 := gd_max hm gv
  have a : (W : Int) ≤ v := by
    rcases Int.lt_or_le v (W : Int) with z | z
    · have hv : ((v.toNat : Nat) : Int) = v := by omega
      have := w2 v.toNat (by omega) (by omega)
      rw [hv] at this
      exact (this gv).elim
    · exact z
  have b : v ≤ (W : Int) := by
    obtain ⟨r1, x1, x2⟩ := gd_iff.mp w1
    obtain ⟨M, u, e, m1, m2, m3, m4, m5⟩ := chn_widest h.ne r1 0 h.ne (grd_chn _ _ _ (by omega) (by omega) x1)
    obtain ⟨r2, y1, y2⟩ := grd_short (wth_wid rs).anti r1 0 0 rs.length (by omega) (by omega) (by omega) m5
    have := g3 u e m1 m2 (by rw [← m3]; exact gd_iff.mpr ⟨r2, y1, by omega⟩)
    omega
  omega
/-! ### the parts of the law -/
def laE (a0 : PV) (ds : List Int) (s2 s3 s4 s5 s6 s7 s8 s9 s10 s11 s12 : Sl) : Env := [.sh a0, .ow (dk ds), s2, s3, s4, s5, s6, s7, s8, s9, s10, s11, s12, .un, .un, .un]
theorem lc_half (a0 : PV) (ds : List Int) (s2 s3 s4 s5 s6 s7 s8 s9 s10 s11 s12 : Sl) {di : DenL} {E : Den} (hE : E = dFdivW (dAdd (dVar 15) (dC (.int 1))) (dC (.int 2))) (r : List Nat) (hr : r.length ≤ 1000)
    (hdi : di (laE a0 ds s2 s3 s4 s5 s6 s7 s8 s9 s10 s11 s12) = .ok (r.map fun e : Nat => PV.int (2 * (e : Int) - 1)) (laE a0 ds s2 s3 s4 s5 s6 s7 s8 s9 s10 s11 s12)) :
    dLc [15] di (gName 15) bYes E (laE a0 ds s2 s3 s4 s5 s6 s7 s8 s9 s10 s11 s12) = .ok (nP r) (laE a0 ds s2 s3 s4 s5 s6 s7 s8 s9 s10 s11 s12) := by
  subst hE
  exact dLc_ok (fun e : Nat => PV.int (2 * (e : Int) - 1)) (fun e : Nat => PV.int (e : Int)) r hdi rfl (by omega) (fun e _ => by
    have e1 : 2 * (e : Int) - 1 + 1 = 2 * (e : Int) := by omega
    have e2 : 2 * (e : Int) / 2 = (e : Int) := by omega
    generalize 2 * (e : Int) - 1 = z at *
    have hl : Nat.log2 2 < 9000 := by decide
    simp [laE, Sl.lock, e1, e2, hl])
theorem lc_max (a0 : PV) (ds : List Int) (s3 s4 s5 s6 s7 s8 s9 s10 s11 s12 : Sl) {E : Den} (hE : E = d2 gIx (dVar 14) (dC (.int 0))) (hn : rs.length ≤ 8) :
    dLc [14] (iSeq (dVar 2)) (gName 14) bYes E (laE a0 ds (.sh (rowsP rs)) s3 s4 s5 s6 s7 s8 s9 s10 s11 s12) = .ok (.lst (rs.map fun r => .int (r.1 : Int))) (laE a0 ds (.sh (rowsP rs)) s3 s4 s5 s6 s7 s8 s9 s10 s11 s12) := by
  subst hE
  exact dLc_ok rowP (fun r => .int (r.1 : Int)) rs (by simp [laE, rowsP]) rfl (by omega) (fun r _ => by
    have e0 : gIx (rowP r) (.int 0) = some (.int (r.1 : Int)) := rfl
    generalize rowP r = R at *
    simp [laE, Sl.lock, e0])
theorem max_rows (h : Rok rs) : ∃ m : Nat, mxOk rs m ∧ gMaxD [.lst (rs.map fun r => .int (r.1 : Int))] = some (.int (m : Int)) := by
  obtain ⟨x, x1, x2, x3⟩ := max_ints (l := rs.map fun r => (r.1 : Int)) (by have := h.ne; intro z; rw [List.map_eq_nil_iff] at z; rw [z] at this; simp at this)
  obtain ⟨r, r1, rfl⟩ := List.mem_map.mp x1
  rw [List.map_map] at x2
  refine ⟨r.1, ⟨⟨r, r1, rfl⟩, fun r' hr' => ?_⟩, x2⟩
  have := x3 (r'.1 : Int) (List.mem_map.mpr ⟨r', hr', rfl⟩)
  omega
theorem len_ok (h : Rok rs) {Hn : Nat} {r : List Nat} (g : grd (wth rs) rs.length (Hn : Int) rs.length 0 = some r) : r.length ≤ 8 := by
  have := (chn_le _ _ _ (grd_chn _ _ _ (by omega) (by omega) g)).1
  have := h.len
  omega
/-- the while -/
theorem wh_width (h : Rok rs) {m cols : Nat} (hm : mxOk rs m) (hm1 : 1 ≤ m) (hc : 1 ≤ cols) (a0 : PV) (ds : List Int) (s2 s4 s5 s6 s7 s8 s9 s12 : Sl) : ∀ (fuel W : Nat), m ≤ W → 73 < fuel + W → (∀ W' : Nat, m ≤ W' → W' < W → ¬ gd (wth rs) rs.length cols (W' : Int) = true) →
    ∃ W1 : Nat, m ≤ W1 ∧ gd (wth rs) rs.length cols (W1 : Int) = true ∧ (∀ W' : Nat, m ≤ W' → W' < W1 → ¬ gd (wth rs) rs.length cols (W' : Int) = true) ∧
      dWhile (bVal (d2 gGt (dCall F_least_lines (dCons (dVar 3) (dCons (dLst (dCons (dVar 11) dNil)) dNil))) (dVar 10))) B_law_6 fuel (laE a0 ds s2 (.sh (itsP (its rs))) s4 s5 s6 s7 s8 s9 (.sh (.int (cols : Int))) (.sh (.int (W : Int))) s12) = .nx (laE a0 ds s2 (.sh (itsP (its rs))) s4 s5 s6 s7 s8 s9 (.sh (.int (cols : Int))) (.sh (.int (W1 : Int))) s12) := by
  have hbd := wth_bd h (Nat.zero_le rs.length) (Nat.le_refl _)
  intro fuel
  induction fuel with
  | zero =>
    intro W h1 h2 h3
    have := h3 72 (by
      have h8 : m ≤ 6 := by obtain ⟨r, r1, rfl⟩ := hm.1; exact h.h2 r r1
      omega) (by omega)
    exact (this (gd_big h hc (by omega))).elim
  | succ fuel ih =>
    intro W h1 h2 h3
    obtain ⟨r, g⟩ := grd_max h hm (H := (W : Int)) (by omega)
    have hF := F_least_lines_ok h (Hn := W) (by omega)
    rw [g] at hF
    have hF : F_least_lines [itsP (its rs), .lst [.int (W : Int)]] = .ok (.int (r.length : Nat)) .non := hF
    by_cases hc2 : r.length ≤ cols
    · refine ⟨W, h1, gd_iff.mpr ⟨r, g, hc2⟩, h3, wh_end ?_⟩
      have hgt : ¬ (cols : Int) < (r.length : Nat) := by omega
      unfold laE
      generalize ((r.length : Nat) : Int) = l at *
      generalize (cols : Int) = c at *
      generalize (W : Int) = w at *
      simp [hF, hgt, szn (show 1 ≤ 1000000 by omega)]
    · have hgt : (cols : Int) < (r.length : Nat) := by omega
      have hno : ¬ gd (wth rs) rs.length cols (W : Int) = true := fun z => by
        obtain ⟨r', x1, x2⟩ := gd_iff.mp z
        rw [g] at x1
        cases x1
        omega
      obtain ⟨W1, k1, k2, k3, k4⟩ := ih (W + 1) (by omega) (by omega) (fun W' y1 y2 => by
        by_cases hw : W' = W
        · rw [hw]; exact hno
        · exact h3 W' y1 (by omega))
      refine ⟨W1, k1, k2, k3, ?_⟩
      rw [wh_step (ρ1 := laE a0 ds s2 (.sh (itsP (its rs))) s4 s5 s6 s7 s8 s9 (.sh (.int (cols : Int))) (.sh (.int (W : Int))) s12) (ρ2 := laE a0 ds s2 (.sh (itsP (its rs))) s4 s5 s6 s7 s8 s9 (.sh (.int (cols : Int))) (.sh (.int ((W + 1 : Nat) : Int))) s12) ?_ ?_]
      · exact k4
      · unfold laE
        generalize ((r.length : Nat) : Int) = l at *
        generalize (cols : Int) = c at *
        generalize (W : Int) = w at *
        simp [hF, hgt, szn (show 1 ≤ 1000000 by omega)]
      · have e1 : ((W + 1 : Nat) : Int) = (W : Int) + 1 := by omega
        rw [e1]
        unfold laE
        generalize (W : Int) = w at *
        simp [B_law_6]
end
end PL.K95

set_option Elab.async false
set_option linter.all false
set_option maxRecDepth 100000
set_option maxHeartbeats 4000000
namespace PL.K95
open PySem PySem.Spec L2 PL
set_option autoImplicit false
/-! ### the law -/
theorem draw_rows (a0 : PV) (ds : List Int) : ∃ ds' rs, Rok rs ∧
    sSet 2 (dLc [13] (iR1 (dCons (dAdd (dC (.int 1)) (dCallIo F__law_take 1 (dCons (dC (.int 8)) dNil))) dNil)) (gName 13) bYes E_law_1) (laE a0 ds .un .un .un .un .un .un .un .un .un .un .un) = .nx (laE a0 ds' (.sh (rowsP rs)) .un .un .un .un .un .un .un .un .un .un) := by
  obtain ⟨n, d1, hn, e1⟩ := take_nat ds 8 (by omega)
  have e1 : F__law_take [dk ds, .int 8] = _ := e1
  have hr := rg1_nat (ρ := laE a0 d1 .un .un .un .un .un .un .un .un .un .un .un) (n := 1 + n) (by omega)
  have hr2 : rangeP 0 (1 + n) = (List.range (1 + n)).map fun i : Nat => PV.int (i : Nat) := by simp [rangeP_map]
  rw [hr2] at hr
  have ec : ((1 + n : Nat) : Int) = 1 + (n : Int) := by omega
  rw [ec] at hr
  obtain ⟨vs, x2, h1, h2, h3⟩ := dLc_draw (i := 13) (j := 1) (ρ := laE a0 ds .un .un .un .un .un .un .un .un .un .un .un) (ρ1 := laE a0 d1 .un .un .un .un .un .un .un .un .un .un .un) (E := E_law_1) (di := iR1 (dCons (dAdd (dC (.int 1)) (dCallIo F__law_take 1 (dCons (dC (.int 8)) dNil))) dNil)) (fun i : Nat => PV.int (i : Nat)) rowP (fun r => 1 ≤ r.1 ∧ r.1 ≤ 6 ∧ r.2 ≤ 3) (List.range (1 + n))
    (by
      generalize (n : Int) = nn at *
      simp [laE, e1]
      exact hr) rfl rfl (by simp; omega)
    (fun c _ ds => by
      obtain ⟨v, x3, hv, e2⟩ := take_nat ds 6 (by omega)
      have e2 : F__law_take [dk ds, .int 6] = _ := e2
      obtain ⟨u, x4, hu, e3⟩ := take_nat x3 4 (by omega)
      have e3 : F__law_take [dk x3, .int 4] = _ := e3
      refine ⟨(1 + v, u), x4, ⟨by omega, by omega, by omega⟩, ?_⟩
      have ec2 : ((1 + v : Nat) : Int) = 1 + (v : Int) := by omega
      unfold rowP
      simp only [ec2]
      generalize (v : Int) = vv at *
      generalize (u : Int) = uu at *
      simp [E_law_1, laE, e2, e3, szn (show 4 ≤ 1000000 by omega)])
  refine ⟨x2, vs, ⟨by rw [h1]; simp; omega, by rw [h1]; simp; omega, fun r hr => (h2 r hr).1, fun r hr => (h2 r hr).2.1, fun r hr => (h2 r hr).2.2⟩, ?_⟩
  rw [sSet_ok h3]
  rfl
section
variable {rs : List Rw}
theorem ok_nP {n : Nat} {r : List Nat} (h : r.length ≤ 1000) : okD (n + 2) (nP r) = true := okD_lst (by simp; omega) (okDs_map fun x _ => okD_int _)
theorem ok_pg {n : Nat} {r : List Nat} {t : Int} (h : r.length ≤ 1000) : okD (n + 3) (.tup [nP r, .int t]) = true := okD_tup (by simp) (by simp [okDs, ok_nP h, okD_int])
theorem ok_ba {n : Nat} {r : List Nat} {t : Int} (h : r.length ≤ 1000) : okD (n + 3) (.tup [.int t, nP r]) = true := okD_tup (by simp) (by simp [okDs, ok_nP h, okD_int])
theorem ne_bl (b : Bool) : gNe (.bl b) (.bl b) = some (.bl false) := gNe_same (n := 1) (okD_bl b) (by omega)
theorem if_one (h : Rok rs) {Hn : Nat} {o : Option RVal} (ho : Best (wth rs) rs.length (Hn : Int) o) (a0 : PV) (ds : List Int) :
    sIf (bOr (bVal (d2 gNe (d2 (gIsN false) (dVar 5) (dC .non)) (d2 (gIsN false) (dVar 6) (dC .non)))) (bVal (d2 gNe (d2 (gIsN false) (dVar 5) (dC .non)) (d2 gGt (dN gMaxD (dCons (dLc [14] (iSeq (dVar 2)) (gName 14) bYes E_law_2) dNil)) (dVar 4))))) (sRet (dC (.bl false))) sNx (laE a0 ds (.sh (rowsP rs)) (.sh (itsP (its rs))) (.sh (.int (Hn : Int))) (.sh (pagesP o)) (.sh (bestP o)) .un .un .un .un .un .un) = .nx (laE a0 ds (.sh (rowsP rs)) (.sh (itsP (its rs))) (.sh (.int (Hn : Int))) (.sh (pagesP o)) (.sh (bestP o)) .un .un .un .un .un .un) := by
  obtain ⟨m, hm, e1⟩ := max_rows h
  have L := lc_max (E := E_law_2) a0 ds (.sh (itsP (its rs))) (.sh (.int (Hn : Int))) (.sh (pagesP o)) (.sh (bestP o)) .un .un .un .un .un .un rfl h.len
  have hiff := chn_max hm (H := (Hn : Int))
  generalize PV.lst (rs.map fun r => .int (r.1 : Int)) = LM at *
  cases o with
  | none =>
    have hgt : (Hn : Int) < (m : Int) := by
      rcases Int.lt_or_le (Hn : Int) (m : Int) with z | z
      · exact z
      · obtain ⟨r, hr⟩ := hiff.mpr z
        exact (ho r hr).elim
    unfold laE pagesP bestP at *
    generalize (Hn : Int) = a at *
    generalize (m : Int) = b at *
    simp [L, e1, hgt, isN_non, ne_bl, -ap_dLc]
  | some v =>
    have hle : ¬ (Hn : Int) < (m : Int) := by
      have := hiff.mp ⟨v.2, ho.1⟩
      omega
    have i1 : gIsN false (pagesP (some v)) .non = some (.bl false) := rfl
    have i2 : gIsN false (bestP (some v)) .non = some (.bl false) := rfl
    unfold laE at *
    generalize pagesP (some v) = P at *
    generalize bestP (some v) = B at *
    generalize (Hn : Int) = a at *
    generalize (m : Int) = b at *
    simp [L, e1, hle, i1, i2, ne_bl, -ap_dLc]
theorem if_two (h : Rok rs) {Hn : Nat} (hH : 1 ≤ Hn) (hH2 : Hn ≤ 100) {o : Option RVal} (ho : Best (wth rs) rs.length (Hn : Int) o) (a0 : PV) (ds : List Int) : ∃ t7 t8 t9,
    sIf (bVal (d2 (gIsN true) (dVar 5) (dC .non))) (sSeq (sSet 7 (dLc [15] (iSeq (d2 gIx (dVar 6) (dC (.int 1)))) (gName 15) bYes E_law_3))
    (sSeq (sIf (bVal (d2 gNe (dCall F__law_plain (dCons (dTup (dCons (dVar 7) (dCons (d2 gIx (dVar 6) (dC (.int 0))) dNil))) dNil)) (dCall F__law_plain (dCons (dVar 5) dNil)))) (sRet (dC (.bl false))) sNx)
    (sSeq (sSet 8 (dCall F_first_fit (dCons (dVar 2) (dCons (dVar 4) (dCons (dC (.int 0)) dNil)))))
    (sSeq (sSet 9 (dCall F_filled_ragged (dCons (dVar 3) (dCons (dLst (dCons (dVar 4) dNil)) dNil))))
    (sIf (bOr (bVal (d2 gNe (dLc [15] (iSeq (dVar 9)) (gName 15) bYes E_law_4) (dVar 8))) (bVal (d2 gNe (dCall F_least_lines (dCons (dVar 3) (dCons (dLst (dCons (dVar 4) dNil)) dNil))) (dN gLenN (dCons (dVar 8) dNil))))) (sRet (dC (.bl false))) sNx))))) sNx (laE a0 ds (.sh (rowsP rs)) (.sh (itsP (its rs))) (.sh (.int (Hn : Int))) (.sh (pagesP o)) (.sh (bestP o)) .un .un .un .un .un .un) = .nx (laE a0 ds (.sh (rowsP rs)) (.sh (itsP (its rs))) (.sh (.int (Hn : Int))) (.sh (pagesP o)) (.sh (bestP o)) t7 t8 t9 .un .un .un) := by
  have hn := h.len
  cases o with
  | none =>
    refine ⟨.un, .un, .un, ?_⟩
    unfold laE pagesP bestP
    simp [isN_non]
  | some v =>
    obtain ⟨r', g1, _⟩ := grd_short (wth_wid rs).anti v.2 0 0 rs.length (by omega) (by omega) (by omega) ho.1
    have hrl := len_ok h g1
    have hvl : v.2.length ≤ 8 := by have := (chn_le _ _ _ ho.1).1; omega
    have i1 : gIsN true (pagesP (some v)) .non = some (.bl true) := rfl
    have x1 : gIx (bestP (some v)) (.int 1) = some (rP v.2) := rfl
    have x0 : gIx (bestP (some v)) (.int 0) = some (.int v.1) := rfl
    have hFf := F_first_fit_ok h (H := (Hn : Int)) (by omega)
    have hFr := F_filled_ragged_ok h hH
    have hLl := F_least_lines_ok h hH
    rw [g1] at hFf hFr hLl
    have hFf : F_first_fit [rowsP rs, .int (Hn : Int), .int 0] = .ok (nP r') .non := hFf
    have hFr : F_filled_ragged [itsP (its rs), .lst [.int (Hn : Int)]] = .ok (rP r') .non := hFr
    have hLl : F_least_lines [itsP (its rs), .lst [.int (Hn : Int)]] = .ok (.int (r'.length : Nat)) .non := hLl
    have L1 := lc_half (E := E_law_3) (di := iSeq (d2 gIx (dVar 6) (dC (.int 1)))) a0 ds (.sh (rowsP rs)) (.sh (itsP (its rs))) (.sh (.int (Hn : Int))) (.sh (pagesP (some v))) (.sh (bestP (some v))) .un .un .un .un .un .un rfl v.2 (by omega) (by
      unfold laE
      simp [x1, rP])
    have L2 := lc_half (E := E_law_4) (di := iSeq (dVar 9)) a0 ds (.sh (rowsP rs)) (.sh (itsP (its rs))) (.sh (.int (Hn : Int))) (.sh (pagesP (some v))) (.sh (bestP (some v))) (.sh (nP v.2)) (.sh (nP r')) (.sh (rP r')) .un .un .un rfl r' (by omega) (by
      unfold laE
      simp [rP])
    have pk : okD 5 (.tup [nP v.2, .int v.1]) = true := ok_pg (by omega)
    have hP : F__law_plain [.tup [nP v.2, .int v.1]] = .ok (plainP (.tup [nP v.2, .int v.1])) .non := F_plain_eq 5 _ pk
    have hP2 : F__law_plain [pagesP (some v)] = .ok (plainP (.tup [nP v.2, .int v.1])) .non := hP
    have pn := plain_ne pk (by omega)
    have ln : gLenN [nP r'] = some (.int (r'.length : Nat)) := by simp [nP, show r'.length ≤ sizeLine from szn (by omega)]
    have nr : gNe (nP r') (nP r') = some (.bl false) := gNe_same (n := 2) (ok_nP (n := 0) (r := r') (by omega)) (by omega)
    refine ⟨.sh (nP v.2), .sh (nP r'), .sh (rP r'), ?_⟩
    rw [sIf_t (ρ1 := laE a0 ds (.sh (rowsP rs)) (.sh (itsP (its rs))) (.sh (.int (Hn : Int))) (.sh (pagesP (some v))) (.sh (bestP (some v))) .un .un .un .un .un .un) (by unfold laE; generalize pagesP (some v) = P at *; simp [i1]),
      seq_nx (sSet_ok L1)]
    show sSeq _ _ (laE a0 ds (.sh (rowsP rs)) (.sh (itsP (its rs))) (.sh (.int (Hn : Int))) (.sh (pagesP (some v))) (.sh (bestP (some v))) (.sh (nP v.2)) .un .un .un .un .un) = _
    unfold laE at *
    generalize plainP (.tup [nP v.2, .int v.1]) = PP at *
    generalize pagesP (some v) = P at *
    generalize bestP (some v) = B at *
    generalize (Hn : Int) = a at *
    generalize ((r'.length : Nat) : Int) = l at *
    rw [seq_nx (ρ1 := [.sh a0, .ow (dk ds), .sh (rowsP rs), .sh (itsP (its rs)), .sh (.int a), .sh P, .sh B, .sh (nP v.2), .un, .un, .un, .un, .un, .un, .un, .un]) (by simp [x0, hP, hP2, pn, szn (show 2 ≤ 1000000 by omega)]),
      seq_nx (ρ1 := [.sh a0, .ow (dk ds), .sh (rowsP rs), .sh (itsP (its rs)), .sh (.int a), .sh P, .sh B, .sh (nP v.2), .sh (nP r'), .un, .un, .un, .un, .un, .un, .un]) (by simp [hFf]),
      seq_nx (ρ1 := [.sh a0, .ow (dk ds), .sh (rowsP rs), .sh (itsP (its rs)), .sh (.int a), .sh P, .sh B, .sh (nP v.2), .sh (nP r'), .sh (rP r'), .un, .un, .un, .un, .un, .un]) (by simp [hFr, szn (show 1 ≤ 1000000 by omega)])]
    have nl : gNe (.int l) (.int l) = some (.bl false) := gNe_same (n := 1) (okD_int l) (by omega)
    simp [L2, nr, nl, hLl, ln, szn (show 1 ≤ 1000000 by omega), -ap_dLc, -ap_lenN]
end
end PL.K95

set_option Elab.async false
set_option linter.all false
set_option maxRecDepth 100000
set_option maxHeartbeats 4000000
namespace PL.K95
open PySem PySem.Spec L2 PL
set_option autoImplicit false
theorem F_least_height_ok {rs : List Rw} {cols : Nat} {v : Int} {r : List Nat} (e : F_balanced [rowsP rs, .int (cols : Int)] = .ok (.tup [.int v, nP r]) .non) : F_least_height [rowsP rs, .int (cols : Int)] = .ok (.int v) .non := by
  have i1 : gIsN false (.tup [.int v, nP r]) .non = some (.bl false) := rfl
  refine run_rt (env := [.sh (rowsP rs), .sh (.int (cols : Int)), .un]) (ρ := [.sh (rowsP rs), .sh (.int (cols : Int)), .sh (.tup [.int v, nP r])]) ?_
  unfold den_least_height
  generalize (cols : Int) = c at *
  rw [seq_nx (ρ1 := [.sh (rowsP rs), .sh (.int c), .sh (.tup [.int v, nP r])]) (by simp [e])]
  simp [i1, at0]
theorem top_ok : F_top := by
  intro ns hns
  obtain ⟨ds0, e0⟩ := F_deck_eq (ns := ns) (c := 60) (e := 14) (by rw [sizeLine_eq]; omega) (by omega) (by omega)
  generalize ha0 : PV.klst (ns.map .int) = a0 at *
  have e0 : F_deck [a0, .int 60, .int 14] = .ok (dk ds0) .non := e0
  obtain ⟨ds1, rs, h, S2⟩ := draw_rows a0 ds0
  have hn := h.len
  have hI := F__law_items_ok h
  obtain ⟨hv, ds2, hhv, e4⟩ := take_nat ds1 20 (by omega)
  have e4 : F__law_take [dk ds1, .int 20] = .ok (.int (hv : Int)) (dk ds2) := e4
  have eH : 1 + (hv : Int) = ((1 + hv : Nat) : Int) := by omega
  have hH1 : 1 ≤ 1 + hv := by omega
  have hH2 : 1 + hv ≤ 100 := by omega
  generalize 1 + hv = Hn at *
  obtain ⟨o, e5, ho⟩ := F_best_pages_ok h (H := (Hn : Int)) (by omega) (by omega)
  obtain ⟨o', e6, ho'⟩ := F_best_ragged_ok h hH1 hH2
  have := Best.uniq ho' ho
  subst this
  have e6 : F_best_ragged [itsP (its rs), .lst [.int (Hn : Int)]] = .ok (bestP o') .non := e6
  have S7 := if_one h ho a0 ds2
  obtain ⟨t7, t8, t9, S8⟩ := if_two h hH1 hH2 ho a0 ds2
  obtain ⟨c, ds3, hc, e9⟩ := take_nat ds2 4 (by omega)
  have e9 : F__law_take [dk ds2, .int 4] = .ok (.int (c : Int)) (dk ds3) := e9
  have eC : 1 + (c : Int) = ((1 + c : Nat) : Int) := by omega
  have hC1 : 1 ≤ 1 + c := by omega
  generalize 1 + c = cols at *
  obtain ⟨m, hm, e10⟩ := max_rows h
  have hm1 : 1 ≤ m := by obtain ⟨r, r1, rfl⟩ := hm.1; exact h.h1 r r1
  have L10 := lc_max (E := E_law_5) a0 ds3 (.sh (itsP (its rs))) (.sh (.int (Hn : Int))) (.sh (pagesP o')) (.sh (bestP o')) t7 t8 t9 (.sh (.int (cols : Int))) .un .un rfl hn
  obtain ⟨W, w1, w2, w3, S11⟩ := wh_width h hm hm1 hC1 a0 ds3 (.sh (rowsP rs)) (.sh (.int (Hn : Int))) (.sh (pagesP o')) (.sh (bestP o')) t7 t8 t9 .un 2000 m (Nat.le_refl _) (by omega) (fun W' a b => by omega)
  obtain ⟨v, r, e12, g1, g2, g3⟩ := F_balanced_ok h hC1
  have e13 := F_least_height_ok e12
  have ev := width_eq h hm g1 g2 g3 w2 w3
  subst ev
  have hFr := F_filled_ragged_ok h (Hn := W) (by omega)
  rw [g1] at hFr
  have hFr : F_filled_ragged [itsP (its rs), .lst [.int (W : Int)]] = .ok (rP r) .non := hFr
  have hrl := len_ok h g1
  have pk : okD 5 (.int (W : Int)) = true := okD_int _
  have hP : F__law_plain [.int (W : Int)] = .ok (plainP (.int (W : Int))) .non := F_plain_eq 5 _ pk
  have pn := plain_ne pk (by omega)
  have eq := gEq_same (ok_ba (n := 0) (r := r) (t := (W : Int)) (by omega)) (by omega)
  have L14 := lc_half (E := E_law_7) (di := iSeq (dCall F_filled_ragged (dCons (dVar 3) (dCons (dLst (dCons (dVar 11) dNil)) dNil)))) a0 ds3 (.sh (rowsP rs)) (.sh (itsP (its rs))) (.sh (.int (Hn : Int))) (.sh (pagesP o')) (.sh (bestP o')) t7 t8 t9 (.sh (.int (cols : Int))) (.sh (.int (W : Int))) (.sh (.tup [.int (W : Int), nP r])) rfl r (by omega) (by
    unfold laE
    generalize (W : Int) = w at *
    simp [hFr, rP, szn (show 1 ≤ 1000000 by omega)])
  refine ⟨.non, run_rt (env := [.sh a0, .un, .un, .un, .un, .un, .un, .un, .un, .un, .un, .un, .un, .un, .un, .un]) (ρ := laE a0 ds3 (.sh (rowsP rs)) (.sh (itsP (its rs))) (.sh (.int (Hn : Int))) (.sh (pagesP o')) (.sh (bestP o')) t7 t8 t9 (.sh (.int (cols : Int))) (.sh (.int (W : Int))) (.sh (.tup [.int (W : Int), nP r]))) ?_⟩
  have S3 : sSet 3 (dCall F__law_items (dCons (dVar 2) dNil)) (laE a0 ds1 (.sh (rowsP rs)) .un .un .un .un .un .un .un .un .un .un) = .nx (laE a0 ds1 (.sh (rowsP rs)) (.sh (itsP (its rs))) .un .un .un .un .un .un .un .un .un) := by simp [laE, hI]
  have S4 : sSet 4 (dAdd (dC (.int 1)) (dCallIo F__law_take 1 (dCons (dC (.int 20)) dNil))) (laE a0 ds1 (.sh (rowsP rs)) (.sh (itsP (its rs))) .un .un .un .un .un .un .un .un .un) = .nx (laE a0 ds2 (.sh (rowsP rs)) (.sh (itsP (its rs))) (.sh (.int (Hn : Int))) .un .un .un .un .un .un .un .un) := by
    rw [← eH]
    unfold laE
    generalize (hv : Int) = z at *
    simp [e4]
  have S5 : sSet 5 (dCall F_best_pages (dCons (dVar 2) (dCons (dVar 4) (dCons (dC (.int 0)) dNil)))) (laE a0 ds2 (.sh (rowsP rs)) (.sh (itsP (its rs))) (.sh (.int (Hn : Int))) .un .un .un .un .un .un .un .un) = .nx (laE a0 ds2 (.sh (rowsP rs)) (.sh (itsP (its rs))) (.sh (.int (Hn : Int))) (.sh (pagesP o')) .un .un .un .un .un .un .un) := by
    unfold laE
    generalize (Hn : Int) = z at *
    simp [e5]
  have S6 : sSet 6 (dCall F_best_ragged (dCons (dVar 3) (dCons (dLst (dCons (dVar 4) dNil)) dNil))) (laE a0 ds2 (.sh (rowsP rs)) (.sh (itsP (its rs))) (.sh (.int (Hn : Int))) (.sh (pagesP o')) .un .un .un .un .un .un .un) = .nx (laE a0 ds2 (.sh (rowsP rs)) (.sh (itsP (its rs))) (.sh (.int (Hn : Int))) (.sh (pagesP o')) (.sh (bestP o')) .un .un .un .un .un .un) := by
    unfold laE
    generalize (Hn : Int) = z at *
    simp [e6, szn (show 1 ≤ 1000000 by omega)]
  have S9 : sSet 10 (dAdd (dC (.int 1)) (dCallIo F__law_take 1 (dCons (dC (.int 4)) dNil))) (laE a0 ds2 (.sh (rowsP rs)) (.sh (itsP (its rs))) (.sh (.int (Hn : Int))) (.sh (pagesP o')) (.sh (bestP o')) t7 t8 t9 .un .un .un) = .nx (laE a0 ds3 (.sh (rowsP rs)) (.sh (itsP (its rs))) (.sh (.int (Hn : Int))) (.sh (pagesP o')) (.sh (bestP o')) t7 t8 t9 (.sh (.int (cols : Int))) .un .un) := by
    rw [← eC]
    unfold laE
    generalize (c : Int) = z at *
    simp [e9]
  have S10 : sSet 11 (dN gMaxD (dCons (dLc [14] (iSeq (dVar 2)) (gName 14) bYes E_law_5) dNil)) (laE a0 ds3 (.sh (rowsP rs)) (.sh (itsP (its rs))) (.sh (.int (Hn : Int))) (.sh (pagesP o')) (.sh (bestP o')) t7 t8 t9 (.sh (.int (cols : Int))) .un .un) = .nx (laE a0 ds3 (.sh (rowsP rs)) (.sh (itsP (its rs))) (.sh (.int (Hn : Int))) (.sh (pagesP o')) (.sh (bestP o')) t7 t8 t9 (.sh (.int (cols : Int))) (.sh (.int (m : Int))) .un) := by
    generalize PV.lst (rs.map fun r => .int (r.1 : Int)) = LM at *
    generalize (m : Int) = z at *
    unfold laE at *
    simp [L10, e10, -ap_dLc]
  have S12 : sIf (bVal (d2 gNe (dCall F__law_plain (dCons (dCall F_least_height (dCons (dVar 2) (dCons (dVar 10) dNil))) dNil)) (dCall F__law_plain (dCons (dVar 11) dNil)))) (sRet (dC (.bl false))) sNx (laE a0 ds3 (.sh (rowsP rs)) (.sh (itsP (its rs))) (.sh (.int (Hn : Int))) (.sh (pagesP o')) (.sh (bestP o')) t7 t8 t9 (.sh (.int (cols : Int))) (.sh (.int (W : Int))) .un) = .nx (laE a0 ds3 (.sh (rowsP rs)) (.sh (itsP (its rs))) (.sh (.int (Hn : Int))) (.sh (pagesP o')) (.sh (bestP o')) t7 t8 t9 (.sh (.int (cols : Int))) (.sh (.int (W : Int))) .un) := by
    unfold laE
    generalize plainP (.int (W : Int)) = PP at *
    generalize (cols : Int) = cc at *
    generalize (W : Int) = w at *
    simp [e13, hP, pn]
  have S13 : sSet 12 (dCall F_balanced (dCons (dVar 2) (dCons (dVar 10) dNil))) (laE a0 ds3 (.sh (rowsP rs)) (.sh (itsP (its rs))) (.sh (.int (Hn : Int))) (.sh (pagesP o')) (.sh (bestP o')) t7 t8 t9 (.sh (.int (cols : Int))) (.sh (.int (W : Int))) .un) = .nx (laE a0 ds3 (.sh (rowsP rs)) (.sh (itsP (its rs))) (.sh (.int (Hn : Int))) (.sh (pagesP o')) (.sh (bestP o')) t7 t8 t9 (.sh (.int (cols : Int))) (.sh (.int (W : Int))) (.sh (.tup [.int (W : Int), nP r]))) := by
    unfold laE
    generalize (cols : Int) = cc at *
    simp [e12]
  unfold den_law
  rw [seq_nx (ρ1 := laE a0 ds0 .un .un .un .un .un .un .un .un .un .un .un) (by simp [laE, e0]), seq_nx S2, seq_nx S3, seq_nx S4, seq_nx S5, seq_nx S6, seq_nx S7, seq_nx S8, seq_nx S9, seq_nx S10,
    seq_nx (by unfold sWhile; exact S11), seq_nx S12, seq_nx S13]
  unfold laE at *
  generalize (W : Int) = w at *
  simp [L14, eq, szn (show 2 ≤ 1000000 by omega), -ap_dLc]
end PL.K95

set_option Elab.async false
set_option linter.all false
set_option maxRecDepth 100000
set_option maxHeartbeats 0
open PySem PySem.W PySem.Calls PyProof.Rows
theorem PySem.Challenge.cw_presswork_k95_whole_lines_and_pages_alik_holds : PySem.Challenge.rw_presswork_k95_whole_lines_and_pages_alik.Holds := by
  w_on; o_law
  refine HandSHeadRun.head_any (H := PL.K95.hk) (ob := PL.K95.ob) (d := HandSHeadRun.topDef (OpenLaw.row PySem.Challenge.rw_presswork_k95_whole_lines_and_pages_alik).prog 50) (kwd := []) PL.K95.ob_eq
    (by kernel_rfl) (fun s => by kernel_rfl) PL.K95.run (by kernel_rfl) (by kernel_rfl) (by kernel_rfl) (by rfl) (by first | assumption | decide +kernel) (by decide +kernel) ⟨rfl, rfl, rfl, rfl, rfl, by decide +kernel⟩ ?hw ?hc
  case hw => w_witness2
  case hc =>
    refine L2.walk_ofE (l := PySem.Challenge.rw_presswork_k95_whole_lines_and_pages_alik) (n := 63) (k := 7) (x := "script") (CX := PL.CXA PySem.Challenge.pw_presswork_k95_whole_lines_and_pages_alik) rfl (by decide) (by kernel_rfl) ⟨rfl, by decide, by decide⟩ ?F PL.CXA.none
    case F =>
      intro w mg fa h Y G hmg0
      obtain ⟨K, KX, c⟩ := Y
      have hmg : mg ("law" : PySem.Str) = some (.ref fa) := by
        have e : (HandSHeadRun.topDef (OpenLaw.row PySem.Challenge.rw_presswork_k95_whole_lines_and_pages_alik).prog 50).name = ("law" : PySem.Str) := by kernel_rfl
        rw [← e]
        exact hmg0
      obtain ⟨fd, hb, hF⟩ := PL.K95.facts PL.K95.top_ok (P := PySem.Challenge.pw_presswork_k95_whole_lines_and_pages_alik) (w := w) KX G hmg c
      exact ⟨K, fd, PL.spTop K, KX, hb, fun H a ns hl _ hS => ⟨a, ns, rfl, hl, hS, fun _ => rfl⟩, fun base h1 h2 => PL.FnOk.anyW (hF base h1 h2)⟩

