import PyProof.Rows.All
import Wide.All
import OpenK.AllK
import Wide.FinOn
import HandS.ForMost
import HandS.TupAny
import HandS.TupMul
import HandS.Gcd
import HandS.IsInst
import HandS.TupLe
import HandS.WordsExc
import HandS.Defaults
import HandS.HeadEnd
import HandS.HeadHook1
import HandS.HeadHook2
import HandS.HeadHook3
import HandS.HeadHook4
import KE.KExcSuper
import HandS.Nested
import HandS.ExcInit
import HandS.ExcField
import PySem.Challenge.RW_planyard_k14_closing_whole
import HandS.HotCalls
import HandS.ExcInitHot
import KE.KMathG
import HandS.Zip
import HandS.Wide
import KE.KTupSum
import HandS.Dict
import HandS.Iter
import HandS.Rev
import HandS.TupSets
import HandS.Deep
import HandS.RevTup
import KE.KStateDown
import HandS.Ends
import HandS.Head0
import HandS.Head1
import HandS.Head2
import HandS.Head3

set_option Elab.async false
set_option linter.all false
set_option maxRecDepth 100000
set_option maxHeartbeats 0

/-! The layer of typed slots: data that never change are told by a kept heap g, objects that still change are owned. -/
namespace Lw
open PySem PySem.Spec PyProof.Rows L2

/-- values of a Lean type, as the kept heap bears them -/
class Py (K : PySem.W.Frag) (α : Type) where
  R : Hp → V → α → Prop
  mono : ∀ {g g' : Hp} {v : V} {x : α}, Same g g' → R g v x → R g' v x
/-- a tuple whose items are alike -/
structure Tup (α : Type) where
  l : List α

theorem paired_mono {α β : Type} {F G : α → β → Prop} : ∀ {xs : List α} {ys : List β}, (∀ a b, F a b → G a b) → Paired F xs ys → Paired G xs ys
  | _, _, _, .nil => .nil
  | _, _, h, .cons r t => .cons (h _ _ r) (paired_mono h t)
theorem paired_get {α β : Type} {F : α → β → Prop} : ∀ {xs : List α} {ys : List β} {i : Nat} {y : β}, Paired F xs ys → ys[i]? = some y → ∃ x, xs[i]? = some x ∧ F x y
  | _, _, _, _, .nil, e => by simp at e
  | _, _, 0, y, .cons r _, e => by simp at e; subst e; exact ⟨_, rfl, r⟩
  | _, _, i + 1, y, .cons _ t, e => by
    obtain ⟨x, h1, h2⟩ := paired_get (i := i) (y := y) t (by simpa using e)
    exact ⟨x, by simpa using h1, h2⟩
theorem paired_getL {α β : Type} {F : α → β → Prop} : ∀ {xs : List α} {ys : List β} {i : Nat} {x : α}, Paired F xs ys → xs[i]? = some x → ∃ y, ys[i]? = some y ∧ F x y
  | _, _, _, _, .nil, e => by simp at e
  | _, _, 0, y, .cons r _, e => by simp at e; subst e; exact ⟨_, rfl, r⟩
  | _, _, i + 1, y, .cons _ t, e => by
    obtain ⟨x, h1, h2⟩ := paired_getL (i := i) (x := y) t (by simpa using e)
    exact ⟨x, by simpa using h1, h2⟩
theorem paired_append {α β : Type} {F : α → β → Prop} : ∀ {xs : List α} {ys : List β} {xs' : List α} {ys' : List β}, Paired F xs ys → Paired F xs' ys' → Paired F (xs ++ xs') (ys ++ ys')
  | _, _, _, _, .nil, s => s
  | _, _, _, _, .cons r t, s => .cons r (paired_append t s)
theorem paired_take {α β : Type} {F : α → β → Prop} : ∀ {xs : List α} {ys : List β} (n : Nat), Paired F xs ys → Paired F (xs.take n) (ys.take n)
  | _, _, 0, _ => .nil
  | _, _, _ + 1, .nil => .nil
  | _, _, n + 1, .cons r t => .cons r (paired_take n t)
theorem paired_drop {α β : Type} {F : α → β → Prop} : ∀ {xs : List α} {ys : List β} (n : Nat), Paired F xs ys → Paired F (xs.drop n) (ys.drop n)
  | _, _, 0, r => r
  | _, _, _ + 1, .nil => .nil
  | _, _, n + 1, .cons _ t => paired_drop n t
theorem paired_set {α β : Type} {F : α → β → Prop} {x : α} {y : β} (r : F x y) : ∀ {xs : List α} {ys : List β} (n : Nat), Paired F xs ys → Paired F (xs.set n x) (ys.set n y)
  | _, _, _, .nil => .nil
  | _, _, 0, .cons _ t => .cons r t
  | _, _, n + 1, .cons q t => .cons q (paired_set r n t)
theorem paired_rev {α β : Type} {F : α → β → Prop} {xs : List α} {ys : List β} (h : Paired F xs ys) : Paired F xs.reverse ys.reverse := by
  induction h with
  | nil => exact .nil
  | cons r _ ih => rw [List.reverse_cons, List.reverse_cons]; exact paired_append ih (.cons r .nil)
theorem paired_map {α β γ : Type} {F : α → β → Prop} {f : γ → α} : ∀ {ys : List γ} {zs : List β}, Paired (fun c b => F (f c) b) ys zs → Paired F (ys.map f) zs
  | _, _, .nil => .nil
  | _, _, .cons r t => .cons r (paired_map t)
theorem paired_eq {α β : Type} {f : β → α} : ∀ {xs : List α} {ys : List β}, Paired (fun a b => a = f b) xs ys → xs = ys.map f
  | _, _, .nil => rfl
  | _, _, .cons r t => by rw [r, paired_eq t]; rfl
theorem paired_of_eq {α β : Type} {f : β → α} : ∀ {ys : List β}, Paired (fun a b => a = f b) (ys.map f) ys
  | [] => .nil
  | _ :: _ => .cons rfl paired_of_eq

theorem same_seqT {K : PySem.W.Frag} {H H' : Hp} {a : Addr} {xs : List V} (e : Same H H') (h : SqT K H a xs) : SqT K H' a xs := by
  rcases h with (h | ⟨o, h⟩) | h
  · exact .inl (.inl (e _ _ h))
  · exact .inl (.inr ⟨o, e _ _ h⟩)
  · exact .inr h

theorem same_tup {K : PySem.W.Frag} {H H' : Hp} {a : Addr} {xs : List V} (e : Same H H') (h : H a = some (.tup xs)) : SqT K H' a xs := .inl (.inl (e _ _ h))
section
variable {K : PySem.W.Frag}
instance : Py K Int := ⟨fun _ v x => v = .int x, fun _ h => h⟩
instance : Py K Bool := ⟨fun _ v x => v = .bl x, fun _ h => h⟩
instance : Py K Str := ⟨fun _ v x => v = .str x, fun _ h => h⟩
instance : Py K Unit := ⟨fun _ v _ => v = .non, fun _ h => h⟩
instance : Py K V := ⟨fun _ v x => v = x, fun _ h => h⟩
instance instOpt {α : Type} [i : Py K α] : Py K (Option α) := ⟨fun g v x => match x with
  | none => v = .non
  | some y => v ≠ .non ∧ i.R g v y, fun {g g' v x} e h => by
    cases x with
    | none => exact h
    | some y => exact ⟨h.1, i.mono e h.2⟩⟩
instance instList {α : Type} [i : Py K α] : Py K (List α) := ⟨fun g v xs => ∃ a vs, v = .ref a ∧ SqL K g a vs ∧ Paired (i.R g) vs xs, fun {g g' v x} e h => by
  obtain ⟨a, vs, h1, h2, h3⟩ := h
  exact ⟨a, vs, h1, e.seq h2, paired_mono (fun _ _ q => i.mono e q) h3⟩⟩
instance instTup {α : Type} [i : Py K α] : Py K (Tup α) := ⟨fun g v xs => ∃ a vs, v = .ref a ∧ g a = some (.tup vs) ∧ Paired (i.R g) vs xs.l, fun {g g' v x} e h => by
  obtain ⟨a, vs, h1, h2, h3⟩ := h
  exact ⟨a, vs, h1, e _ _ h2, paired_mono (fun _ _ q => i.mono e q) h3⟩⟩
instance instPair {α β : Type} [i : Py K α] [j : Py K β] : Py K (α × β) := ⟨fun g v x => ∃ a u w, v = .ref a ∧ g a = some (.tup [u, w]) ∧ i.R g u x.1 ∧ j.R g w x.2, fun {g g' v x} e h => by
  obtain ⟨a, u, w, h1, h2, h3, h4⟩ := h
  exact ⟨a, u, w, h1, e _ _ h2, i.mono e h3, j.mono e h4⟩⟩

/-- a slot: nothing is known, or a value of a type -/
inductive Slot (K : PySem.W.Frag) : Type 1 where
  | unk
  | val (α : Type) (i : Py K α) (x : α)
def Slot.ok (g : Hp) : Slot K → Option V → Prop
  | .unk, _ => True
  | .val _ i x, o => ∃ v, o = some v ∧ i.R g v x
theorem Slot.ok_mono {g g' : Hp} {s : Slot K} {o : Option V} (e : Same g g') (h : s.ok g o) : s.ok g' o := by
  cases s with
  | unk => trivial
  | val α i x => obtain ⟨v, h1, h2⟩ := h; exact ⟨v, h1, i.mono e h2⟩
abbrev sv {α : Type} [i : Py K α] (x : α) : Slot K := .val α i x

/-- an owned object: what is known of it, by the kept heap -/
structure Own where
  P : Hp → HO → Prop
  mono : ∀ {g g' : Hp} {o : HO}, Same g g' → P g o → P g' o
/-- the caller's view at the entry: what may be changed, the kept heap, the heap -/
structure Bs where
  ls : List Addr
  g : Hp
  h : Hp
abbrev Env (K : PySem.W.Frag) := List (Slot K)
abbrev Os := List (Addr × Own)

structure S0 (b : Bs) (g h : Hp) (σ : L2.St) (env : Env K) (os : Os) : Prop where
  gh : Same g h
  len : σ.length = env.length
  sl : ∀ (i : Nat) (s : Slot K), env[i]? = some s → s.ok g (σ[i]?.join)
  own : ∀ p ∈ os, g p.1 = none ∧ ∃ o : HO, h p.1 = some o ∧ p.2.P g o
  nd : (os.map (·.1)).Nodup
  gg : Same b.g g
  fr : ∀ a o, a ∉ b.ls → b.h a = some o → h a = some o
  th : ∀ a, b.h a ≠ none → h a ≠ none
  new : ∀ a, b.g a = none → b.h a ≠ none → g a = none
  ol : ∀ p ∈ os, b.h p.1 = none ∨ p.1 ∈ b.ls

/-- a step that changes nothing that was there -/
structure Le (g h g' h' : Hp) : Prop where
  gg : Same g g'
  hh : Same h h'
  gh : Same g' h'
  new : ∀ a, g a = none → h a ≠ none → g' a = none

theorem some_ne_none {α : Type} {o : Option α} {x : α} (h : o = some x) : o ≠ none := by rw [h]; exact fun z => by cases z
theorem sameNe {H H' : Hp} (e : Same H H') {a : Addr} (h : H a ≠ none) : H' a ≠ none := by
  cases q : H a with
  | none => exact absurd q h
  | some o => rw [e a o q]; exact fun z => by cases z

variable {b : Bs} {g h g' h' : Hp} {σ : L2.St} {env : Env K} {os : Os}
theorem Le.refl (e : Same g h) : Le g h g h := ⟨Same.refl _, Same.refl _, e, fun _ n _ => n⟩
theorem Le.trans {g2 h2 : Hp} (a : Le g h g' h') (c : Le g' h' g2 h2) : Le g h g2 h2 :=
  ⟨a.gg.trans c.gg, a.hh.trans c.hh, c.gh, fun x n m => c.new x (a.new x n m) (sameNe a.hh m)⟩
/-- a new kept object -/
theorem Le.laid {p : Addr} {o : HO} (e : Same g h) (n : h p = none) : Le g h (upd g p o) (upd h p o) := by
  refine ⟨fun b u q => ?_, fun b u q => ?_, fun b u q => ?_, fun a q m => ?_⟩
  · rw [upd_ne (ne_of_none (e _ _ q) n)]; exact q
  · rw [upd_ne (ne_of_none q n)]; exact q
  · by_cases hb : b = p
    · subst hb; rw [upd_same] at q ⊢; exact q
    · rw [upd_ne hb] at q ⊢; exact e _ _ q
  · rw [upd_ne (fun z => m (by rw [z]; exact n))]; exact q

theorem S0.le (s : S0 b g h σ env os) (l : Le g h g' h') : S0 b g' h' σ env os where
  gh := l.gh
  len := s.len
  sl := fun i t e => Slot.ok_mono l.gg (s.sl i t e)
  own := fun p hp => by
    obtain ⟨n, o, e, q⟩ := s.own p hp
    exact ⟨l.new _ n (some_ne_none e), o, l.hh _ _ e, p.2.mono l.gg q⟩
  nd := s.nd
  gg := s.gg.trans l.gg
  fr := fun a o n e => l.hh _ _ (s.fr a o n e)
  th := fun a n => sameNe l.hh (s.th a n)
  new := fun a n m => l.new a (s.new a n m) (s.th a m)
  ol := s.ol
/-- at the end of a def that changes nothing -/
theorem S0.fin (s : S0 b g h σ env os) (e : b.ls = []) : Le b.g b.h g h :=
  ⟨s.gg, fun a o q => s.fr a o (by rw [e]; exact fun z => by cases z) q, s.gh, s.new⟩
/-- a name is stored -/
theorem S0.set {i : Nat} {v : V} {t : Slot K} (s : S0 b g h σ env os) (r : t.ok g (some v)) : S0 b g h (σ.set i (some v)) (env.set i t) os where
  gh := s.gh
  len := by rw [List.length_set, List.length_set]; exact s.len
  sl := fun j u e => by
    by_cases hj : i = j
    · subst hj
      have hl : i < env.length := by
        have := (List.getElem?_eq_some_iff.mp e).1
        rwa [List.length_set] at this
      rw [List.getElem?_set_self hl] at e
      cases e
      rw [List.getElem?_set_self (by rw [s.len]; exact hl)]
      exact r
    · rw [List.getElem?_set_ne hj] at e ⊢
      exact s.sl j u e
  own := s.own
  nd := s.nd
  gg := s.gg
  fr := s.fr
  th := s.th
  new := s.new
  ol := s.ol
/-- less is known of the slots -/
theorem S0.weak {env' : Env K} (s : S0 b g h σ env os) (l : env'.length = env.length) (w : ∀ (i : Nat) (t : Slot K), env'[i]? = some t → t = Slot.unk ∨ env[i]? = some t) : S0 b g h σ env' os :=
  { s with
    len := by rw [l]; exact s.len
    sl := fun i t e => by
      rcases w i t e with rfl | z
      · trivial
      · exact s.sl i t z }
/-- an owned object is changed -/
theorem S0.put {k : Nat} {l : Addr} {w w' : Own} {o : HO} (s : S0 b g h σ env os) (e : os[k]? = some (l, w)) (q : w'.P g o) : S0 b g (upd h l o) σ env (os.set k (l, w')) := by
  have hm : (l, w) ∈ os := List.mem_of_getElem? e
  obtain ⟨n, o1, e1, _⟩ := s.own _ hm
  have hk : k < os.length := (List.getElem?_eq_some_iff.mp e).1
  have keys : (os.set k (l, w')).map (·.1) = os.map (·.1) := by
    rw [List.map_set]
    apply List.ext_getElem?
    intro j
    by_cases hj : k = j
    · subst hj
      rw [List.getElem?_set_self (by rw [List.length_map]; exact hk), List.getElem?_map, e]
      rfl
    · rw [List.getElem?_set_ne hj]
  have other : ∀ j p, os[j]? = some p → j ≠ k → p.1 ≠ l := fun j p hj hne z => by
    have n1 := s.nd
    have a1 : (os.map (·.1))[j]? = some l := by rw [List.getElem?_map, hj]; exact congrArg some z
    have a2 : (os.map (·.1))[k]? = some l := by rw [List.getElem?_map, e]; rfl
    exact hne ((List.getElem?_inj (by rw [List.length_map]; exact (List.getElem?_eq_some_iff.mp hj).1) n1).mp (a1.trans a2.symm))
  have mem : ∀ p, p ∈ os.set k (l, w') → p = (l, w') ∨ ∃ j, os[j]? = some p ∧ j ≠ k := fun p hp => by
    obtain ⟨j, hj⟩ := List.mem_iff_getElem?.mp hp
    by_cases hjk : k = j
    · subst hjk
      rw [List.getElem?_set_self hk] at hj
      cases hj
      exact .inl rfl
    · rw [List.getElem?_set_ne hjk] at hj
      exact .inr ⟨j, hj, fun z => hjk z.symm⟩
  refine ⟨fun c u q1 => ?_, s.len, s.sl, fun p hp => ?_, by rw [keys]; exact s.nd, s.gg, fun a u na q1 => ?_, fun a na => ?_, s.new, fun p hp => ?_⟩
  · rw [upd_ne (ne_of_none q1 n)]; exact s.gh _ _ q1
  · rcases mem p hp with rfl | ⟨j, hj, hne⟩
    · exact ⟨n, o, upd_same, q⟩
    · obtain ⟨n2, o2, e2, q2⟩ := s.own p (List.mem_of_getElem? hj)
      exact ⟨n2, o2, by rw [upd_ne (other j p hj hne)]; exact e2, q2⟩
  · have : a ≠ l := fun z => by
      subst z
      rcases s.ol _ hm with z | z
      · rw [show b.h a = none from z] at q1; cases q1
      · exact na z
    rw [upd_ne this]; exact s.fr a u na q1
  · by_cases hb : a = l
    · subst hb; rw [upd_same]; exact fun z => by cases z
    · rw [upd_ne hb]; exact s.th a na
  · rcases mem p hp with rfl | ⟨j, hj, _⟩
    · exact s.ol (l, w) hm
    · exact s.ol p (List.mem_of_getElem? hj)
/-- a new owned object -/
theorem S0.add {l : Addr} {w : Own} {o : HO} (s : S0 b g h σ env os) (n : h l = none) (q : w.P g o) : S0 b g (upd h l o) σ env (os ++ [(l, w)]) := by
  have nb : b.h l = none := by
    cases q : b.h l with
    | none => rfl
    | some u => exact absurd n (s.th l (some_ne_none q))
  have ng : g l = none := s.gh.free n
  refine ⟨fun c u q1 => ?_, s.len, s.sl, fun p hp => ?_, ?_, s.gg, fun a u na q1 => ?_, fun a na => ?_, s.new, fun p hp => ?_⟩
  · show L2.upd h l o c = _
    rw [upd_ne (ne_of_none (s.gh _ _ q1) n)]; exact s.gh _ _ q1
  · show _ ∧ ∃ o', L2.upd h l o p.1 = _ ∧ _
    rcases List.mem_append.mp hp with hp | hp
    · obtain ⟨n2, o2, e2, q2⟩ := s.own p hp
      exact ⟨n2, o2, by rw [upd_ne (ne_of_none e2 n)]; exact e2, q2⟩
    · rw [List.mem_singleton] at hp
      subst hp
      exact ⟨ng, o, upd_same, q⟩
  · rw [List.map_append, List.map_singleton]
    refine List.nodup_append.mpr ⟨s.nd, by simp, fun x hx y hy => ?_⟩
    rw [List.mem_singleton] at hy
    subst hy
    obtain ⟨p, hp, rfl⟩ := List.mem_map.mp hx
    obtain ⟨_, o2, e2, _⟩ := s.own p hp
    exact ne_of_none e2 n
  · show L2.upd h l o a = _
    have : a ≠ l := fun z => by rw [z, nb] at q1; cases q1
    rw [upd_ne this]; exact s.fr a u na q1
  · show L2.upd h l o a ≠ _
    by_cases hb : a = l
    · subst hb; rw [upd_same]; exact fun z => by cases z
    · rw [upd_ne hb]; exact s.th a na
  · rcases List.mem_append.mp hp with hp | hp
    · exact s.ol p hp
    · rw [List.mem_singleton] at hp
      subst hp
      exact .inl nb
end
end Lw
/-! What an expression evaluates to in a told state. -/
namespace Lw
open PySem PySem.Spec PyProof.Rows L2
section
variable {K : PySem.W.Frag}
/-- from each state that is as told, te gives a value of x, and nothing that was there is changed -/
def Ev (te : TE) (env : Env K) (os : Os) {α : Type} [i : Py K α] (x : α) : Prop :=
  ∀ {b : Bs} {g h : Hp} {σ : L2.St} {Q : VK}, S0 b g h σ env os → (∀ v g' h', Le g h g' h' → i.R g' v x → Q v h') → te σ h Q
def EvT (tt : TT) (env : Env K) (os : Os) (c : Bool) : Prop :=
  ∀ {b : Bs} {g h : Hp} {σ : L2.St} {Q : Bool → Hp → Prop}, S0 b g h σ env os → (∀ g' h', Le g h g' h' → Q c h') → tt σ h Q
inductive Args (g : Hp) : List V → List (Slot K) → Prop where
  | nil : Args g [] []
  | cons {v : V} {vs : List V} {s : Slot K} {ss : List (Slot K)} : s.ok g (some v) → Args g vs ss → Args g (v :: vs) (s :: ss)
def EvA (ta : TA) (env : Env K) (os : Os) (xs : List (Slot K)) : Prop :=
  ∀ {b : Bs} {g h : Hp} {σ : L2.St} {Q : List V → Hp → Prop}, S0 b g h σ env os → (∀ vs g' h', Le g h g' h' → Args g' vs xs → Q vs h') → ta σ h Q
/-- arguments of one type -/
def EvL (ta : TA) (env : Env K) (os : Os) {α : Type} [i : Py K α] (xs : List α) : Prop :=
  ∀ {b : Bs} {g h : Hp} {σ : L2.St} {Q : List V → Hp → Prop}, S0 b g h σ env os → (∀ vs g' h', Le g h g' h' → Paired (i.R g') vs xs → Q vs h') → ta σ h Q
def EvO (to : TO) (env : Env K) (os : Os) (o : Option Int) : Prop :=
  ∀ {b : Bs} {g h : Hp} {σ : L2.St} {Q : Option Int → Hp → Prop}, S0 b g h σ env os → (∀ g' h', Le g h g' h' → Q o h') → to σ h Q

theorem args_mono {g g' : Hp} {vs : List V} {xs : List (Slot K)} (e : Same g g') (h : Args g vs xs) : Args g' vs xs := by
  induction h with
  | nil => exact .nil
  | cons r _ ih => exact .cons (Slot.ok_mono e r) ih
theorem pr_mono {α : Type} [i : Py K α] {g g' : Hp} {vs : List V} {xs : List α} (e : Same g g') (h : Paired (i.R g) vs xs) : Paired (i.R g') vs xs := paired_mono (fun _ _ q => i.mono e q) h

variable {env : Env K} {os : Os} {ta tb te tx : TE} {t u : TT} {α β γ : Type} [iα : Py K α] [iβ : Py K β] [iγ : Py K γ]
/-! ### names, constants -/
theorem ev_var {i : Nat} {x : α} (e : env[i]? = some (.val α iα x)) : Ev (tVar i) env os x := fun {b g h σ Q} s q => by
  obtain ⟨v, h1, h2⟩ := s.sl i _ e
  refine ⟨v, ?_, q v g h (Le.refl s.gh) h2⟩
  cases hs : σ[i]? with
  | none => rw [hs] at h1; cases h1
  | some o => rw [hs] at h1; rw [show o = some v from h1]
/-- a name whose value is known not to be None -/
theorem ev_varS {i : Nat} {x : α} (e : env[i]? = some (.val (Option α) instOpt (some x))) : Ev (tVar i) env os x := fun {b g h σ Q} s q =>
  ev_var (x := some x) e s fun v g1 h1 l1 r1 => q v g1 h1 l1 r1.2
theorem ev_int {n : Int} : Ev (tC (.int n)) env os n := fun {b g h σ Q} s q => q _ g h (Le.refl s.gh) rfl
theorem ev_bl {c : Bool} : Ev (tC (.bl c)) env os c := fun {b g h σ Q} s q => q _ g h (Le.refl s.gh) rfl
theorem ev_str {x : Str} : Ev (tC (.str x)) env os x := fun {b g h σ Q} s q => q _ g h (Le.refl s.gh) rfl
theorem ev_non : Ev (tC .non) env os () := fun {b g h σ Q} s q => q _ g h (Le.refl s.gh) rfl
theorem ev_noneO : Ev (tC .non) env os (none : Option α) := fun {b g h σ Q} s q => q _ g h (Le.refl s.gh) rfl
theorem ev_v {v : V} : Ev (tC v) env os v := fun {b g h σ Q} s q => q _ g h (Le.refl s.gh) rfl
theorem Ev.to {x y : α} (h : Ev te env os x) (e : x = y) : Ev te env os y := e ▸ h
theorem EvT.to {c d : Bool} (h : EvT t env os c) (e : c = d) : EvT t env os d := e ▸ h

/-! ### arithmetic, comparisons -/
theorem ev_i2 {f : Int → Int → Int} {x y : Int} (ha : Ev ta env os x) (hb : Ev tb env os y) : Ev (tOp (rI0 fun i j => .int (f i j)) ta tb) env os (f x y) := fun {b g h σ Q} s q =>
  ha s fun v g1 h1 l1 r1 => hb (s.le l1) fun w g2 h2 l2 r2 => ⟨x, y, r1, r2, q _ _ _ (l1.trans l2) rfl⟩
theorem ev_iC {C : Int → Int → Prop} {f : Int → Int → Int} {x y : Int} (ha : Ev ta env os x) (hb : Ev tb env os y) (hc : C x y) : Ev (tOp (rI C fun i j => .int (f i j)) ta tb) env os (f x y) := fun {b g h σ Q} s q =>
  ha s fun v g1 h1 l1 r1 => hb (s.le l1) fun w g2 h2 l2 r2 => ⟨x, y, r1, r2, hc, q _ _ _ (l1.trans l2) rfl⟩
theorem ev_ib {f : Int → Int → Bool} {x y : Int} (ha : Ev ta env os x) (hb : Ev tb env os y) : Ev (tOp (rI0 fun i j => .bl (f i j)) ta tb) env os (f x y) := fun {b g h σ Q} s q =>
  ha s fun v g1 h1 l1 r1 => hb (s.le l1) fun w g2 h2 l2 r2 => ⟨x, y, r1, r2, q _ _ _ (l1.trans l2) rfl⟩
theorem ev_iu {f : Int → Int} {x : Int} (ha : Ev ta env os x) : Ev (tUn (rU fun i => .int (f i)) ta) env os (f x) := fun {b g h σ Q} s q =>
  ha s fun v g1 h1 l1 r1 => ⟨x, r1, q _ _ _ l1 rfl⟩
theorem dec_I {x y : Int} : decide (V.int x = V.int y) = decide (x = y) := by by_cases e : x = y <;> simp [e]
theorem dec_B {x y : Bool} : decide (V.bl x = V.bl y) = decide (x = y) := by by_cases e : x = y <;> simp [e]
theorem dec_S {x y : Str} : decide (V.str x = V.str y) = decide (x = y) := by by_cases e : x = y <;> simp [e]
theorem ev_eqI {x y : Int} (ha : Ev ta env os x) (hb : Ev tb env os y) : Ev (tOp rEq ta tb) env os (decide (x = y)) := fun {b g h σ Q} s q =>
  ha s fun v g1 h1 l1 r1 => hb (s.le l1) fun w g2 h2 l2 r2 => by
    cases r1; cases r2
    exact ⟨rfl, by rw [dec_I]; exact q _ _ _ (l1.trans l2) rfl⟩
theorem ev_neI {x y : Int} (ha : Ev ta env os x) (hb : Ev tb env os y) : Ev (tOp rNe ta tb) env os (!decide (x = y)) := fun {b g h σ Q} s q =>
  ha s fun v g1 h1 l1 r1 => hb (s.le l1) fun w g2 h2 l2 r2 => by
    cases r1; cases r2
    exact ⟨rfl, by rw [dec_I]; exact q _ _ _ (l1.trans l2) rfl⟩
theorem ev_eqS {x y : Str} (ha : Ev ta env os x) (hb : Ev tb env os y) : Ev (tOp rEq ta tb) env os (decide (x = y)) := fun {b g h σ Q} s q =>
  ha s fun v g1 h1 l1 r1 => hb (s.le l1) fun w g2 h2 l2 r2 => by
    cases r1; cases r2
    exact ⟨rfl, by rw [dec_S]; exact q _ _ _ (l1.trans l2) rfl⟩
theorem ev_neS {x y : Str} (ha : Ev ta env os x) (hb : Ev tb env os y) : Ev (tOp rNe ta tb) env os (!decide (x = y)) := fun {b g h σ Q} s q =>
  ha s fun v g1 h1 l1 r1 => hb (s.le l1) fun w g2 h2 l2 r2 => by
    cases r1; cases r2
    exact ⟨rfl, by rw [dec_S]; exact q _ _ _ (l1.trans l2) rfl⟩
theorem ev_eqB {x y : Bool} (ha : Ev ta env os x) (hb : Ev tb env os y) : Ev (tOp rEq ta tb) env os (decide (x = y)) := fun {b g h σ Q} s q =>
  ha s fun v g1 h1 l1 r1 => hb (s.le l1) fun w g2 h2 l2 r2 => by
    cases r1; cases r2
    exact ⟨rfl, by rw [dec_B]; exact q _ _ _ (l1.trans l2) rfl⟩
theorem ev_neB {x y : Bool} (ha : Ev ta env os x) (hb : Ev tb env os y) : Ev (tOp rNe ta tb) env os (!decide (x = y)) := fun {b g h σ Q} s q =>
  ha s fun v g1 h1 l1 r1 => hb (s.le l1) fun w g2 h2 l2 r2 => by
    cases r1; cases r2
    exact ⟨rfl, by rw [dec_B]; exact q _ _ _ (l1.trans l2) rfl⟩
theorem opt_non {g : Hp} {v : V} {x : Option α} (r : (instOpt (K := K) (α := α)).R g v x) : decide (v = V.non) = x.isNone := by
  cases x with
  | none => rw [show v = V.non from r]; rfl
  | some y => exact decide_eq_false r.1
theorem ev_isN {x : Option α} (ha : Ev ta env os x) : Ev (tOp (fun x y H Q => y = V.non ∧ Q (.bl (decide (x = .non))) H) ta (tC .non)) env os x.isNone := fun {b g h σ Q} s q =>
  ha s fun v g1 h1 l1 r1 => ⟨rfl, by rw [opt_non r1]; exact q _ _ _ l1 rfl⟩
theorem ev_notN {x : Option α} (ha : Ev ta env os x) : Ev (tOp (fun x y H Q => y = V.non ∧ Q (.bl (!decide (x = .non))) H) ta (tC .non)) env os (!x.isNone) := fun {b g h σ Q} s q =>
  ha s fun v g1 h1 l1 r1 => ⟨rfl, by rw [opt_non r1]; exact q _ _ _ l1 rfl⟩
/-! ### tests -/
theorem et_test {c : Bool} (h : Ev te env os c) : EvT (tTest te) env os c := fun {b g h' σ Q} s q => h s fun v g1 h1 l1 r1 => ⟨c, r1, q _ _ l1⟩
theorem et_B {c : Bool} (h : Ev te env os c) : EvT (tB te) env os c := fun {b g h' σ Q} s q => h s fun v g1 h1 l1 r1 => ⟨c, r1, q _ _ l1⟩
theorem et_and {c d : Bool} (h1 : EvT t env os c) (h2 : c = true → EvT u env os d) : EvT (tAnd t u) env os (c && d) := fun {b g h σ Q} s q => h1 s fun g1 h' l1 => by
  cases c with
  | true => exact h2 rfl (s.le l1) fun g2 h2 l2 => q _ _ (l1.trans l2)
  | false => exact q _ _ l1
theorem et_or {c d : Bool} (h1 : EvT t env os c) (h2 : c = false → EvT u env os d) : EvT (tOr t u) env os (c || d) := fun {b g h σ Q} s q => h1 s fun g1 h' l1 => by
  cases c with
  | true => exact q _ _ l1
  | false => exact h2 rfl (s.le l1) fun g2 h2 l2 => q _ _ (l1.trans l2)
theorem et_not {c : Bool} (h1 : EvT t env os c) : EvT (tNot t) env os (!c) := fun {b g h σ Q} s q => h1 s fun g1 h' l1 => q _ _ l1
theorem ev_andV {c d : Bool} (h1 : Ev ta env os c) (h2 : c = true → Ev tb env os d) : Ev (tAndV ta tb) env os (c && d) := fun {b g h σ Q} s q => h1 s fun v g1 h' l1 r1 => ⟨c, r1, by
  cases c with
  | true => exact h2 rfl (s.le l1) fun v g2 h2 l2 r2 => q _ _ _ (l1.trans l2) r2
  | false => exact q _ _ _ l1 rfl⟩
theorem ev_orV {c d : Bool} (h1 : Ev ta env os c) (h2 : c = false → Ev tb env os d) : Ev (tOrV ta tb) env os (c || d) := fun {b g h σ Q} s q => h1 s fun v g1 h' l1 r1 => ⟨c, r1, by
  cases c with
  | true => exact q _ _ _ l1 rfl
  | false => exact h2 rfl (s.le l1) fun v g2 h2 l2 r2 => q _ _ _ (l1.trans l2) r2⟩
theorem ev_notV {c : Bool} (h1 : Ev ta env os c) : Ev (tNotV ta) env os (!c) := fun {b g h σ Q} s q => h1 s fun v g1 h' l1 r1 => ⟨c, r1, q _ _ _ l1 rfl⟩
theorem ev_if {c : Bool} {x y : α} (h : EvT t env os c) (h1 : c = true → Ev ta env os x) (h2 : c = false → Ev tb env os y) : Ev (tIf t ta tb) env os (if c = true then x else y) := fun {b g h' σ Q} s q => h s fun g1 h' l1 => by
  cases c with
  | true => exact h1 rfl (s.le l1) fun v g2 h2 l2 r2 => q _ _ _ (l1.trans l2) r2
  | false => exact h2 rfl (s.le l1) fun v g2 h2 l2 r2 => q _ _ _ (l1.trans l2) r2
/-- a value's truth -/
theorem et_truL {xs : List α} (h : Ev te env os xs) : EvT (fun σ H Q => te σ H fun x H' => ∃ k, TruV K x H' k ∧ Q k H') env os (!xs.isEmpty) := fun {b g h' σ Q} s q => h s fun v g1 h1 l1 r1 => by
  obtain ⟨a, vs, rfl, h2, h3⟩ := r1
  refine ⟨_, .inl ⟨vs, l1.gh.seq h2, rfl⟩, ?_⟩
  have e : (!vs.isEmpty) = !xs.isEmpty := by cases h3 <;> rfl
  rw [e]
  exact q _ _ l1
theorem et_truT {xs : Tup α} (h : Ev te env os xs) : EvT (fun σ H Q => te σ H fun x H' => ∃ k, TruV K x H' k ∧ Q k H') env os (!xs.l.isEmpty) := fun {b g h' σ Q} s q => h s fun v g1 h1 l1 r1 => by
  obtain ⟨a, vs, rfl, h2, h3⟩ := r1
  obtain ⟨xs⟩ := xs
  refine ⟨_, .inr (.inl ⟨vs, same_tup l1.gh h2, rfl⟩), ?_⟩
  have e : (!vs.isEmpty) = !xs.isEmpty := by cases h3 <;> rfl
  rw [e]
  exact q _ _ l1
theorem et_truB {c : Bool} (h : Ev te env os c) : EvT (fun σ H Q => te σ H fun x H' => ∃ k, TruV K x H' k ∧ Q k H') env os c := fun {b g h' σ Q} s q => h s fun v g1 h1 l1 r1 => by
  cases r1
  exact ⟨c, rfl, q _ _ l1⟩
theorem et_truI {x : Int} (h : Ev te env os x) : EvT (fun σ H Q => te σ H fun x H' => ∃ k, TruV K x H' k ∧ Q k H') env os (x != 0) := fun {b g h' σ Q} s q => h s fun v g1 h1 l1 r1 => by
  cases r1
  exact ⟨_, rfl, q _ _ l1⟩

/-! ### arguments, displays -/
theorem ea_nil : EvA tNil env os [] := fun {b g h σ Q} s q => q _ g h (Le.refl s.gh) .nil
theorem ea_cons {tr : TA} {x : α} {xs : List (Slot K)} (h : Ev ta env os x) (hr : EvA tr env os xs) : EvA (tCons ta tr) env os (sv x :: xs) := fun {b g h' σ Q} s q =>
  h s fun v g1 h1 l1 r1 => hr (s.le l1) fun vs g2 h2 l2 r2 => q _ _ _ (l1.trans l2) (.cons ⟨v, rfl, iα.mono l2.gg r1⟩ r2)
theorem el_nil : EvL tNil env os ([] : List α) := fun {b g h σ Q} s q => q _ g h (Le.refl s.gh) .nil
theorem el_cons {tr : TA} {x : α} {xs : List α} (h : Ev ta env os x) (hr : EvL tr env os xs) : EvL (tCons ta tr) env os (x :: xs) := fun {b g h' σ Q} s q =>
  h s fun v g1 h1 l1 r1 => hr (s.le l1) fun vs g2 h2 l2 r2 => q _ _ _ (l1.trans l2) (.cons (iα.mono l2.gg r1) r2)
theorem ev_tupL {tr : TA} {xs : List α} (h : EvL tr env os xs) (hl : xs.length ≤ 100000 := by first | decide | simp) : Ev (tTup tr) env os (Tup.mk xs) := fun {b g h' σ Q} s q =>
  h s fun vs g1 h1 l1 r1 => ⟨by rw [r1.length]; exact Nat.le_trans hl (by decide), fun p hp => q _ (upd g1 p (.tup vs)) _ (l1.trans (Le.laid l1.gh hp)) ⟨p, vs, rfl, upd_same, pr_mono (Le.laid l1.gh hp).gg r1⟩⟩
theorem ev_lstL {tr : TA} {xs : List α} (h : EvL tr env os xs) (hl : xs.length ≤ 100000 := by first | decide | simp) : Ev (tLst tr) env os xs := fun {b g h' σ Q} s q =>
  h s fun vs g1 h1 l1 r1 => ⟨by rw [r1.length]; exact Nat.le_trans hl (by decide), fun p hp => q _ (upd g1 p (.lst vs)) _ (l1.trans (Le.laid l1.gh hp)) ⟨p, vs, rfl, .inl (.inl upd_same), pr_mono (Le.laid l1.gh hp).gg r1⟩⟩
theorem ev_pair {x : α} {y : β} (ha : Ev ta env os x) (hb : Ev tb env os y) : Ev (tTup (tCons ta (tCons tb tNil))) env os (x, y) := fun {b g h' σ Q} s q =>
  ha s fun v g1 h1 l1 r1 => hb (s.le l1) fun w g2 h2 l2 r2 => ⟨by show 2 ≤ sizeLine; decide, fun p hp => q _ (upd g2 p (.tup [v, w])) _ ((l1.trans l2).trans (Le.laid l2.gh hp))
    ⟨p, v, w, rfl, upd_same, iα.mono (l2.gg.trans (Le.laid l2.gh hp).gg) r1, iβ.mono (Le.laid l2.gh hp).gg r2⟩⟩

/-! ### subscripts -/
theorem atI_map {xs : List α} {vs : List V} {g : Hp} {i : Int} {x : α} (r : Paired (iα.R g) vs xs) (h : atI xs i = some x) : ∃ v, atI vs i = some v ∧ iα.R g v x := by
  unfold atI at h ⊢
  rw [r.length]
  cases e : ixN xs.length i with
  | none => rw [e] at h; cases h
  | some j =>
    rw [e] at h
    exact paired_get r h
theorem ev_ixL {xs : List α} {i : Int} {x : α} (ha : Ev ta env os xs) (hb : Ev tb env os i) (h : atI xs i = some x) : Ev (tOp (rIxL K) ta tb) env os x := fun {b g h' σ Q} s q =>
  ha s fun v g1 h1 l1 r1 => hb (s.le l1) fun w g2 h2 l2 r2 => by
    obtain ⟨a, vs, rfl, h3, h4⟩ := r1
    obtain ⟨v, e, r⟩ := atI_map h4 h
    exact ⟨a, vs, i, v, rfl, r2, (l2.gg.trans l2.gh).seq h3, e, q _ _ _ (l1.trans l2) (iα.mono l2.gg r)⟩
theorem ev_ixT {xs : Tup α} {i : Int} {x : α} (ha : Ev ta env os xs) (hb : Ev tb env os i) (h : atI xs.l i = some x) : Ev (tOp (rIxT K) ta tb) env os x := fun {b g h' σ Q} s q =>
  ha s fun v g1 h1 l1 r1 => hb (s.le l1) fun w g2 h2 l2 r2 => by
    obtain ⟨a, vs, rfl, h3, h4⟩ := r1
    obtain ⟨v, e, r⟩ := atI_map h4 h
    exact ⟨a, vs, i, v, rfl, r2, same_tup (l2.gg.trans l2.gh) h3, e, q _ _ _ (l1.trans l2) (iα.mono l2.gg r)⟩
theorem ev_ixP0 {x : α × β} (ha : Ev ta env os x) : Ev (tOp (rIxT K) ta (tC (.int 0))) env os x.1 := fun {b g h' σ Q} s q =>
  ha s fun v g1 h1 l1 r1 => by
    obtain ⟨a, u, w, rfl, h3, h4, h5⟩ := r1
    exact ⟨a, [u, w], 0, u, rfl, rfl, same_tup l1.gh h3, rfl, q _ _ _ l1 h4⟩
theorem ev_ixP1 {x : α × β} (ha : Ev ta env os x) : Ev (tOp (rIxT K) ta (tC (.int 1))) env os x.2 := fun {b g h' σ Q} s q =>
  ha s fun v g1 h1 l1 r1 => by
    obtain ⟨a, u, w, rfl, h3, h4, h5⟩ := r1
    exact ⟨a, [u, w], 1, w, rfl, rfl, same_tup l1.gh h3, rfl, q _ _ _ l1 h5⟩
theorem ev_ixS {z : Str} {i : Int} {c : Nat} (ha : Ev ta env os z) (hb : Ev tb env os i) (hz : z.length ≤ sizeLine) (h : atI z.cps.toList i = some c) : Ev (tOp rIxS ta tb) env os (⟨#[c]⟩ : Str) := fun {b g h' σ Q} s q =>
  ha s fun v g1 h1 l1 r1 => hb (s.le l1) fun w g2 h2 l2 r2 => ⟨z, i, c, r1, r2, hz, h, q _ _ _ (l1.trans l2) rfl⟩
/-! ### slices -/
theorem eo_none : EvO tNoPart env os none := fun {b g h σ Q} s q => q g h (Le.refl s.gh)
theorem eo_some {i : Int} (h : Ev te env os i) : EvO (tPart te) env os (some i) := fun {b g h' σ Q} s q => h s fun v g1 h1 l1 r1 => ⟨i, r1, q _ _ l1⟩
/-- xs[lo:hi] -/
def cut {α : Type} (xs : List α) (lo hi : Option Int) : List α := (xs.drop (HT.sIx xs.length 0 lo)).take (HT.sIx xs.length xs.length hi - HT.sIx xs.length 0 lo)
theorem paired_cut {F : V → α → Prop} {vs : List V} {xs : List α} {lo hi : Option Int} (r : Paired F vs xs) : Paired F (cutV vs lo hi) (cut xs lo hi) := by
  unfold cutV cut
  rw [r.length]
  exact paired_take _ (paired_drop _ r)
theorem ev_slL {xs : List α} {lo hi : Option Int} {tl th : TO} (ha : Ev ta env os xs) (h1 : EvO tl env os lo) (h2 : EvO th env os hi) : Ev (tSl (rSlL K) ta tl th) env os (cut xs lo hi) := fun {b g h' σ Q} s q =>
  ha s fun v g1 h3 l1 r1 => h1 (s.le l1) fun g2 h4 l2 => h2 ((s.le l1).le l2) fun g3 h5 l3 => by
    obtain ⟨a, vs, rfl, h6, h7⟩ := r1
    have l := l2.trans l3
    refine ⟨a, vs, rfl, (l.gg.trans l.gh).seq h6, fun p hp => q _ (upd g3 p (.lst (cutV vs lo hi))) _ ((l1.trans l).trans (Le.laid l3.gh hp)) ⟨p, _, rfl, .inl (.inl upd_same), pr_mono (l.gg.trans (Le.laid l3.gh hp).gg) (paired_cut h7)⟩⟩
theorem ev_slT {xs : Tup α} {lo hi : Option Int} {tl th : TO} (ha : Ev ta env os xs) (h1 : EvO tl env os lo) (h2 : EvO th env os hi) : Ev (tSl (rSlA K) ta tl th) env os (Tup.mk (cut xs.l lo hi)) := fun {b g h' σ Q} s q =>
  ha s fun v g1 h3 l1 r1 => h1 (s.le l1) fun g2 h4 l2 => h2 ((s.le l1).le l2) fun g3 h5 l3 => by
    obtain ⟨a, vs, rfl, h6, h7⟩ := r1
    have l := l2.trans l3
    refine ⟨a, vs, rfl, same_tup (l.gg.trans l.gh) h6, fun hw => ?_, fun _ p hp => q _ (upd g3 p (.tup (cutV vs lo hi))) _ ((l1.trans l).trans (Le.laid l3.gh hp)) ⟨p, _, rfl, upd_same, pr_mono (l.gg.trans (Le.laid l3.gh hp).gg) (paired_cut h7)⟩⟩
    have e : cut xs.l lo hi = xs.l := by
      unfold cut
      rw [← h7.length, hw.1, hw.2, h7.length]
      simp
    exact q _ _ _ (l1.trans l) ⟨a, vs, rfl, l.gg _ _ h6, by rw [e]; exact pr_mono l.gg h7⟩
/-! ### tuple + tuple, list + list, repeats -/
theorem ev_catT {xs ys : Tup α} (ha : Ev ta env os xs) (hb : Ev tb env os ys) (hl : xs.l.length + ys.l.length ≤ sizeLine) : Ev (tOp (rCatA K) ta tb) env os (Tup.mk (xs.l ++ ys.l)) := fun {b g h' σ Q} s q =>
  ha s fun v g1 h1 l1 r1 => hb (s.le l1) fun w g2 h2 l2 r2 => by
    obtain ⟨a, vs, rfl, h3, h4⟩ := r1
    obtain ⟨a', ws, rfl, h5, h6⟩ := r2
    have h3' := l2.gg _ _ h3
    have h4' := pr_mono l2.gg h4
    refine ⟨a, a', vs, ws, rfl, rfl, same_tup l2.gh h3', same_tup l2.gh h5, by rw [h4.length, h6.length]; exact hl, fun e => ?_, fun _ e => ?_, fun _ _ p hp => ?_⟩
    · subst e
      have e : xs.l = [] := by cases xs with | mk l => cases h4; rfl
      exact q _ _ _ (l1.trans l2) ⟨a', ws, rfl, h5, by rw [e]; exact h6⟩
    · subst e
      have e : ys.l = [] := by cases ys with | mk l => cases h6; rfl
      exact q _ _ _ (l1.trans l2) ⟨a, vs, rfl, h3', by rw [e, List.append_nil]; exact h4'⟩
    · exact q _ (upd g2 p (.tup (vs ++ ws))) _ ((l1.trans l2).trans (Le.laid l2.gh hp)) ⟨p, _, rfl, upd_same, pr_mono (Le.laid l2.gh hp).gg (paired_append h4' h6)⟩
/-! ### built-ins on data -/
theorem ev_cb1 {r : List V → Hp → VK → Prop} {x : α} {z : β} (ha : Ev ta env os x) (hr : ∀ v g h, Same g h → iα.R g v x → ∀ Q : VK, (∀ v' g' h', Le g h g' h' → iβ.R g' v' z → Q v' h') → r [v] h Q) : Ev (tCB r (tCons ta tNil)) env os z := fun {b g h' σ Q} s q =>
  ha s fun v g1 h1 l1 r1 => hr v g1 h1 l1.gh r1 Q fun v' g' h' l2 r2 => q _ _ _ (l1.trans l2) r2
theorem ev_cb2 {r : List V → Hp → VK → Prop} {x : α} {y : γ} {z : β} (ha : Ev ta env os x) (hb : Ev tb env os y) (hr : ∀ v w g h, Same g h → iα.R g v x → iγ.R g w y → ∀ Q : VK, (∀ v' g' h', Le g h g' h' → iβ.R g' v' z → Q v' h') → r [v, w] h Q) : Ev (tCB r (tCons ta (tCons tb tNil))) env os z := fun {b g h' σ Q} s q =>
  ha s fun v g1 h1 l1 r1 => hb (s.le l1) fun w g2 h2 l2 r2 => hr v w g2 h2 l2.gh (iα.mono l2.gg r1) r2 Q fun v' g' h' l3 r3 => q _ _ _ ((l1.trans l2).trans l3) r3
/-- the readings of len, list, tuple as the library's rules print them -/
abbrev rLenQ (K : PySem.W.Frag) : List V → Hp → VK → Prop := fun xs H Q => ∃ p ys, xs = [V.ref p] ∧ (SqL K H p ys ∨ SqT K H p ys) ∧ Q (.int ys.length) H
theorem ev_lenL {xs : List α} (ha : Ev ta env os xs) : Ev (tCB (fun xs H Q => ∃ p ys, xs = [V.ref p] ∧ (SqL K H p ys ∨ SqT K H p ys) ∧ Q (.int ys.length) H) (tCons ta tNil)) env os (xs.length : Int) := ev_cb1 ha fun v g h e r Q q => by
  obtain ⟨a, vs, rfl, h1, h2⟩ := r
  exact ⟨a, vs, rfl, .inl (e.seq h1), q _ g h (Le.refl e) (by rw [h2.length]; rfl)⟩
theorem ev_lenT {xs : Tup α} (ha : Ev ta env os xs) : Ev (tCB (fun xs H Q => ∃ p ys, xs = [V.ref p] ∧ (SqL K H p ys ∨ SqT K H p ys) ∧ Q (.int ys.length) H) (tCons ta tNil)) env os (xs.l.length : Int) := ev_cb1 ha fun v g h e r Q q => by
  obtain ⟨a, vs, rfl, h1, h2⟩ := r
  exact ⟨a, vs, rfl, .inr (same_tup e h1), q _ g h (Le.refl e) (by rw [h2.length]; rfl)⟩
theorem ev_lenS {z : Str} (ha : Ev ta env os z) (hz : z.length ≤ sizeLine) : Ev (tCB (fun xs H Q => ∃ z, xs = [V.str z] ∧ z.length ≤ sizeLine ∧ Q (.int z.length) H) (tCons ta tNil)) env os (z.length : Int) := ev_cb1 ha fun v g h e r Q q => by
  cases r
  exact ⟨z, rfl, hz, q _ g h (Le.refl e) rfl⟩
theorem ev_listL {xs : List α} (ha : Ev ta env os xs) : Ev (tCB (fun xs H Q => ∃ p ys, xs = [V.ref p] ∧ (SqL K H p ys ∨ SqT K H p ys) ∧ ∀ l, H l = none → Q (.ref l) (upd H l (.lst ys))) (tCons ta tNil)) env os xs := ev_cb1 ha fun v g h e r Q q => by
  obtain ⟨a, vs, rfl, h1, h2⟩ := r
  exact ⟨a, vs, rfl, .inl (e.seq h1), fun l hl => q _ (upd g l (.lst vs)) _ (Le.laid e hl) ⟨l, vs, rfl, .inl (.inl upd_same), pr_mono (Le.laid e hl).gg h2⟩⟩
theorem ev_listT {xs : Tup α} (ha : Ev ta env os xs) : Ev (tCB (fun xs H Q => ∃ p ys, xs = [V.ref p] ∧ (SqL K H p ys ∨ SqT K H p ys) ∧ ∀ l, H l = none → Q (.ref l) (upd H l (.lst ys))) (tCons ta tNil)) env os xs.l := ev_cb1 ha fun v g h e r Q q => by
  obtain ⟨a, vs, rfl, h1, h2⟩ := r
  exact ⟨a, vs, rfl, .inr (same_tup e h1), fun l hl => q _ (upd g l (.lst vs)) _ (Le.laid e hl) ⟨l, vs, rfl, .inl (.inl upd_same), pr_mono (Le.laid e hl).gg h2⟩⟩
theorem ev_tupleL {xs : List α} (ha : Ev ta env os xs) : Ev (tCB (fun xs H Q => ∃ p ys, xs = [V.ref p] ∧ ((SqL K H p ys ∧ ∀ l, H l = none → Q (.ref l) (upd H l (.tup ys))) ∨ (SqT K H p ys ∧ Q (.ref p) H))) (tCons ta tNil)) env os (Tup.mk xs) := ev_cb1 ha fun v g h e r Q q => by
  obtain ⟨a, vs, rfl, h1, h2⟩ := r
  exact ⟨a, vs, rfl, .inl ⟨e.seq h1, fun l hl => q _ (upd g l (.tup vs)) _ (Le.laid e hl) ⟨l, vs, rfl, upd_same, pr_mono (Le.laid e hl).gg h2⟩⟩⟩
theorem ev_tupleT {xs : Tup α} (ha : Ev ta env os xs) : Ev (tCB (fun xs H Q => ∃ p ys, xs = [V.ref p] ∧ ((SqL K H p ys ∧ ∀ l, H l = none → Q (.ref l) (upd H l (.tup ys))) ∨ (SqT K H p ys ∧ Q (.ref p) H))) (tCons ta tNil)) env os xs := ev_cb1 ha fun v g h e r Q q => by
  obtain ⟨a, vs, rfl, h1, h2⟩ := r
  exact ⟨a, vs, rfl, .inr ⟨same_tup e h1, q _ g h (Le.refl e) ⟨a, vs, rfl, h1, h2⟩⟩⟩
theorem ev_sum {xs : List Int} (ha : Ev ta env os xs) : Ev (tCB (rSum K) (tCons ta tNil)) env os xs.sum := ev_cb1 ha fun v g h e r Q q => by
  obtain ⟨a, vs, rfl, h1, h2⟩ := r
  refine ⟨a, xs, rfl, ?_, q _ g h (Le.refl e) rfl⟩
  rw [← paired_eq h2]
  exact e.seq h1
theorem ev_any {xs : List Bool} (ha : Ev ta env os xs) : Ev (tCB (rAny K) (tCons ta tNil)) env os (xs.any id) := ev_cb1 ha fun v g h e r Q q => by
  obtain ⟨a, vs, rfl, h1, h2⟩ := r
  refine ⟨a, xs, rfl, ?_, q _ g h (Le.refl e) rfl⟩
  rw [← paired_eq h2]
  exact e.seq h1
theorem ev_all {xs : List Bool} (ha : Ev ta env os xs) : Ev (tCB (rAll K) (tCons ta tNil)) env os (xs.all id) := ev_cb1 ha fun v g h e r Q q => by
  obtain ⟨a, vs, rfl, h1, h2⟩ := r
  refine ⟨a, xs, rfl, ?_, q _ g h (Le.refl e) rfl⟩
  rw [← paired_eq h2]
  exact e.seq h1
theorem ev_intI {x : Int} (ha : Ev ta env os x) : Ev (tCB (fun xs H Q => (∃ i, xs = [V.int i] ∧ Q (.int i) H) ∨ ∃ k, xs = [V.bl k] ∧ Q (.int (if k then 1 else 0)) H) (tCons ta tNil)) env os x := ev_cb1 ha fun v g h e r Q q => by
  cases r
  exact .inl ⟨x, rfl, q _ g h (Le.refl e) rfl⟩
theorem ev_intB {x : Bool} (ha : Ev ta env os x) : Ev (tCB (fun xs H Q => (∃ i, xs = [V.int i] ∧ Q (.int i) H) ∨ ∃ k, xs = [V.bl k] ∧ Q (.int (if k then 1 else 0)) H) (tCons ta tNil)) env os (if x then 1 else 0 : Int) := ev_cb1 ha fun v g h e r Q q => by
  cases r
  exact .inr ⟨x, rfl, q _ g h (Le.refl e) rfl⟩
theorem ev_max2 {x y : Int} (ha : Ev ta env os x) (hb : Ev tb env os y) : Ev (tCB (fun xs H Q => ∃ i j, xs = [V.int i, V.int j] ∧ Q (.int (if j > i then j else i)) H) (tCons ta (tCons tb tNil))) env os (if y > x then y else x) := ev_cb2 ha hb fun v w g h e r1 r2 Q q => by
  cases r1; cases r2
  exact ⟨x, y, rfl, q _ g h (Le.refl e) rfl⟩
theorem ev_min2 {x y : Int} (ha : Ev ta env os x) (hb : Ev tb env os y) : Ev (tCB (fun xs H Q => ∃ i j, xs = [V.int i, V.int j] ∧ Q (.int (if j < i then j else i)) H) (tCons ta (tCons tb tNil))) env os (if y < x then y else x) := ev_cb2 ha hb fun v w g h e r1 r2 Q q => by
  cases r1; cases r2
  exact ⟨x, y, rfl, q _ g h (Le.refl e) rfl⟩
theorem ev_gcd {x y : Int} (ha : Ev ta env os x) (hb : Ev tb env os y) : Ev (tCB rGcd (tCons ta (tCons tb tNil))) env os ((Nat.gcd x.natAbs y.natAbs : Nat) : Int) := ev_cb2 ha hb fun v w g h e r1 r2 Q q => by
  cases r1; cases r2
  exact ⟨x, y, rfl, q _ g h (Le.refl e) rfl⟩
theorem ev_abs {x : Int} (ha : Ev ta env os x) : Ev (tCB (fun xs H Q => ∃ i, xs = [V.int i] ∧ Q (.int (if i < 0 then -i else i)) H) (tCons ta tNil)) env os (if x < 0 then -x else x) := ev_cb1 ha fun v g h e r Q q => by
  cases r
  exact ⟨x, rfl, q _ g h (Le.refl e) rfl⟩
end
end Lw
/-! Statements, loops, comprehensions, calls over told states. -/
namespace Lw
open PySem PySem.Spec PyProof.Rows L2
section
variable {K : PySem.W.Frag} {env : Env K} {os : Os} {ta tb te tx : TE} {t u : TT} {α β γ : Type} [iα : Py K α] [iβ : Py K β] [iγ : Py K γ]
variable {b : Bs} {g h : Hp} {σ : L2.St} {D : Ends} {t1 t2 : TS} {i j : Nat}
theorem st_set {x : α} (s : S0 b g h σ env os) (e : Ev te env os x) (k : ∀ v g' h', S0 b g' h' (σ.set i (some v)) (env.set i (sv x)) os → D.nx (σ.set i (some v)) h') : tAsg te (gName i) D σ h :=
  e s fun v g' h' l r => k v g' h' ((s.le l).set ⟨v, rfl, r⟩)
theorem st_drop {x : α} (s : S0 b g h σ env os) (e : Ev te env os x) (k : ∀ g' h', S0 b g' h' σ env os → D.nx σ h') : tDrop te D σ h :=
  e s fun v g' h' l r => k g' h' (s.le l)
theorem st_ret {x : α} (s : S0 b g h σ env os) (e : Ev te env os x) (k : ∀ v g' h', S0 b g' h' σ env os → iα.R g' v x → D.rt v h') : tRet te D σ h :=
  e s fun v g' h' l r => k v g' h' (s.le l) r
theorem st_if {c : Bool} (s : S0 b g h σ env os) (e : EvT t env os c) (k1 : c = true → ∀ g' h', S0 b g' h' σ env os → t1 D σ h') (k2 : c = false → ∀ g' h', S0 b g' h' σ env os → t2 D σ h') : tIfS t t1 t2 D σ h :=
  e s fun g' h' l => by
    cases c with
    | true => exact k1 rfl g' h' (s.le l)
    | false => exact k2 rfl g' h' (s.le l)
theorem st_aug {f : Int → Int → Int} {x y : Int} (s : S0 b g h σ env os) (e : env[i]? = some (.val Int inferInstance x)) (ey : Ev te env os y) (k : ∀ v g' h', S0 b g' h' (σ.set i (some v)) (env.set i (sv (f x y))) os → D.nx (σ.set i (some v)) h') : tAug i te (ipI f) D σ h := by
  obtain ⟨v, h1, h2⟩ := s.sl i _ e
  refine ⟨v, ?_, ey s fun w g' h' l r => ⟨x, y, h2, r, k _ g' h' ((s.le l).set ⟨_, rfl, rfl⟩)⟩⟩
  cases hs : σ[i]? with
  | none => rw [hs] at h1; cases h1
  | some o => rw [hs] at h1; rw [show o = some v from h1]

/-! ### another base -/
abbrev Bs.at (b : Bs) (g : Hp) : Bs := { b with g := g }
theorem S0.enter (s : S0 b g h σ env os) : S0 (b.at g) g h σ env os := { s with gg := Same.refl _, new := fun _ n _ => n }
theorem S0.leave {g1 h1 : Hp} {σ1 : L2.St} {env1 : Env K} {os1 : Os} (s1 : S0 b g1 h1 σ1 env1 os1) (s : S0 (b.at g1) g h σ env os) : S0 b g h σ env os :=
  { s with gg := s1.gg.trans s.gg, new := fun a n m => s.new a (s1.new a n m) m }

/-! ### targets -/
/-- the target g, from a value of x, makes of the slots f env x -/
def TgtF (g : TG) (vs : List Nat) (f : Env K → α → Env K) : Prop :=
  ∀ {b : Bs} {g1 H : Hp} {σ : L2.St} {v : V} {os : Os} {Q : L2.St → Hp → Prop} {env : Env K} {x : α}, S0 b g1 H σ env os → iα.R g1 v x → (∀ σ2, wipe σ2 vs = wipe σ vs → S0 b g1 H σ2 (f env x) os → Q σ2 H) → g v σ H Q
theorem tgt_name : TgtF (K := K) (α := α) (gName i) [i] (fun env x => env.set i (sv x)) := fun {b g1 H σ v os Q env x} s r q =>
  q _ (by show (σ.set i (some v)).set i none = σ.set i none; rw [List.set_set]) (s.set ⟨v, rfl, r⟩)
theorem tgt_pair : TgtF (K := K) (α := α × β) (gTup K 2 (gCons (gName i) (gCons (gName j) gNil))) [i, j] (fun env x => (env.set i (sv x.1)).set j (sv x.2)) := fun {b g1 H σ v os Q env x} s r q => by
  obtain ⟨a, u, w, rfl, h1, h2, h3⟩ := r
  refine ⟨a, [u, w], rfl, same_tup s.gh h1, rfl, u, [w], rfl, w, [], rfl, rfl, q _ ?_ ((s.set (t := sv x.1) ⟨u, rfl, h2⟩).set (t := sv x.2) ⟨w, rfl, h3⟩)⟩
  show ((((σ.set i (some u)).set j (some w)).set j none).set i none) = (σ.set j none).set i none
  rw [List.set_set]
  by_cases hij : i = j
  · subst hij; rw [List.set_set, List.set_set, List.set_set]
  · rw [List.set_comm (some u) none hij, List.set_set]

/-! ### loops -/
section
variable {tb : TS} {I : Nat → Env K → Os → Prop} {gt : TG} {ws : List Nat} {f : Env K → α → Env K}
/-- one turn: from the item's store on, N to be reached by the next invariant -/
abbrev Turn1 (b : Bs) (D : Ends) (tb : TS) (I : Nat → Env K → Os → Prop) (n : Nat) (f : Env K → Env K) : Prop :=
  ∀ (c : Bs) (_ : c.ls = b.ls) (env' : Env K) (os' : Os) (g' h' : Hp) (σ' : L2.St) (N : L2.St → Hp → Prop), I n env' os' → (∀ {g2 h2 σ2} {env2 : Env K} {os2}, S0 c g2 h2 σ2 env2 os2 → S0 b g2 h2 σ2 env2 os2) →
    S0 c g' h' σ' (f env') os' → (∀ env2 os2 g2 h2 σ2, I (n + 1) env2 os2 → S0 c g2 h2 σ2 env2 os2 → N σ2 h2) → tb { D with nx := N, ct := N, bk := D.nx } σ' h'
theorem turn1_go (hg : TgtF (K := K) gt ws f) {n : Nat} {x : α} {env' : Env K} {os' : Os} {g' h' : Hp} {σ' : L2.St} {v : V} {N : L2.St → Hp → Prop} (hs : Turn1 b D tb I n (fun e => f e x)) (hI : I n env' os') (s' : S0 b g' h' σ' env' os') (r : iα.R g' v x)
    (hN : ∀ env2 os2 g2 h2 σ2, Same g' g2 → I (n + 1) env2 os2 → S0 b g2 h2 σ2 env2 os2 → N σ2 h2) : gt v σ' h' fun σ2 h2 => tb { D with nx := N, ct := N, bk := D.nx } σ2 h2 :=
  hg s'.enter r fun σ2 _ s2 => hs (b.at g') rfl env' os' g' h' σ2 N hI (fun s3 => s'.leave s3) s2 fun env2 os2 g2 h2 σ2 hI2 s2 => hN env2 os2 g2 h2 σ2 s2.gg hI2 (s'.leave s2)
theorem st_for_list {xs : List α} (hg : TgtF (K := K) gt ws f) (s : S0 b g h σ env os) (e : Ev te env os xs) (I : Nat → Env K → Os → Prop) (h0 : I 0 env os)
    (hs : ∀ n x, xs[n]? = some x → Turn1 b D tb I n (fun e => f e x)) (hd : ∀ env' os' g' h' σ', I xs.length env' os' → S0 b g' h' σ' env' os' → D.nx σ' h') : tFor (iList K te) gt tb D σ h := by
  refine e s fun v g1 h1 l1 r1 => ?_
  obtain ⟨a, vs, rfl, hq, hp⟩ := r1
  refine ⟨a, rfl, ⟨vs, l1.gh.seq hq⟩, for_list (K := K) (a := a) (xs := vs) (fun n σ' h' => ∃ g' env' os', Same g1 g' ∧ I n env' os' ∧ S0 b g' h' σ' env' os') ⟨g1, env, os, Same.refl _, h0, s.le l1⟩ (fun n σ' h' _ ⟨g', _, _, e1, _, s'⟩ => (e1.trans s'.gh).seq hq) ?_ ?_⟩
  · rintro n x σ' h' hx ⟨g', env', os', e1, hI, s'⟩
    obtain ⟨y, hy, ry⟩ := paired_getL hp hx
    exact turn1_go hg (hs n y hy) hI s' (iα.mono e1 ry) fun env2 os2 g2 h2 σ2 e2 hI2 s2 => ⟨g2, env2, os2, e1.trans e2, hI2, s2⟩
  · rintro σ' h' ⟨g', env', os', e1, hI, s'⟩
    rw [hp.length] at hI
    exact hd env' os' g' h' σ' hI s'
theorem st_for_tup {xs : Tup α} (hg : TgtF (K := K) gt ws f) (s : S0 b g h σ env os) (e : Ev te env os xs) (I : Nat → Env K → Os → Prop) (h0 : I 0 env os)
    (hs : ∀ n x, xs.l[n]? = some x → Turn1 b D tb I n (fun e => f e x)) (hd : ∀ env' os' g' h' σ', I xs.l.length env' os' → S0 b g' h' σ' env' os' → D.nx σ' h') : tFor (iTup K te) gt tb D σ h := by
  refine e s fun v g1 h1 l1 r1 => ?_
  obtain ⟨a, vs, rfl, hq, hp⟩ := r1
  refine ⟨a, rfl, ⟨vs, same_tup l1.gh hq⟩, for_tup (K := K) (a := a) (xs := vs) (fun n σ' h' => ∃ g' env' os', Same g1 g' ∧ I n env' os' ∧ S0 b g' h' σ' env' os') ⟨g1, env, os, Same.refl _, h0, s.le l1⟩ (fun n σ' h' _ ⟨g', _, _, e1, _, s'⟩ => same_tup (e1.trans s'.gh) hq) ?_ ?_⟩
  · rintro n x σ' h' hx ⟨g', env', os', e1, hI, s'⟩
    obtain ⟨y, hy, ry⟩ := paired_getL hp hx
    exact turn1_go hg (hs n y hy) hI s' (iα.mono e1 ry) fun env2 os2 g2 h2 σ2 e2 hI2 s2 => ⟨g2, env2, os2, e1.trans e2, hI2, s2⟩
  · rintro σ' h' ⟨g', env', os', e1, hI, s'⟩
    rw [hp.length] at hI
    exact hd env' os' g' h' σ' hI s'
theorem st_for_range {n : Int} (s : S0 b g h σ env os) (e : Ev te env os n) (hn : n < 2 ^ 62) (hn0 : -(2 ^ 62) ≤ n) (I : Nat → Env K → Os → Prop) (h0 : I 0 env os)
    (hs : ∀ m : Nat, m < n.toNat → Turn1 b D tb I m (fun e => e.set j (sv ((m : Nat) : Int)))) (hd : ∀ env' os' g' h' σ', I n.toNat env' os' → S0 b g' h' σ' env' os' → D.nx σ' h') : tFor (iRng1 (tCons te tNil)) (gName j) tb D σ h := by
  refine e s fun v g1 h1 l1 r1 => ?_
  cases r1
  refine ⟨n, rfl, hn0, hn, for_range (lo := 0) (n := n.toNat) (fun n σ' h' => ∃ g' env' os', I n env' os' ∧ S0 b g' h' σ' env' os') ⟨g1, env, os, h0, s.le l1⟩ ?_ ?_⟩
  · rintro m σ' h' hm ⟨g', env', os', hI, s'⟩
    exact turn1_go (tgt_name (α := Int)) (hs m hm) hI s' (by show V.int (0 + (m : Int)) = V.int (m : Int); rw [Int.zero_add]) fun env2 os2 g2 h2 σ2 e2 hI2 s2 => ⟨g2, env2, os2, hI2, s2⟩
  · rintro σ' h' ⟨g', env', os', hI, s'⟩
    exact hd env' os' g' h' σ' hI s'
theorem st_for_range2 {m n : Int} {te' : TE} (s : S0 b g h σ env os) (e' : Ev te' env os m) (e : Ev te env os n) (hb : -(2 ^ 62) ≤ m ∧ m < 2 ^ 62 ∧ -(2 ^ 62) ≤ n ∧ n < 2 ^ 62) (I : Nat → Env K → Os → Prop) (h0 : I 0 env os)
    (hs : ∀ k : Nat, k < (n - m).toNat → Turn1 b D tb I k (fun e => e.set j (sv (m + (k : Int))))) (hd : ∀ env' os' g' h' σ', I (n - m).toNat env' os' → S0 b g' h' σ' env' os' → D.nx σ' h') : tFor (iRng2 (tCons te' (tCons te tNil))) (gName j) tb D σ h := by
  refine e' s fun v g1 h1 l1 r1 => e (s.le l1) fun w g2 h2 l2 r2 => ?_
  cases r1; cases r2
  refine ⟨m, n, rfl, hb, for_range (lo := m) (n := (n - m).toNat) (fun n σ' h' => ∃ g' env' os', I n env' os' ∧ S0 b g' h' σ' env' os') ⟨g2, env, os, h0, (s.le l1).le l2⟩ ?_ ?_⟩
  · rintro k σ' h' hk ⟨g', env', os', hI, s'⟩
    exact turn1_go (tgt_name (α := Int)) (hs k hk) hI s' rfl fun env2 os2 g2 h2 σ2 e2 hI2 s2 => ⟨g2, env2, os2, hI2, s2⟩
  · rintro σ' h' ⟨g', env', os', hI, s'⟩
    exact hd env' os' g' h' σ' hI s'
end
/-- while: I with its measure m; from I the test gives c, then the body or the end -/
theorem st_while {tc : TT} {tb : TS} (s : S0 b g h σ env os) (I : Nat → Env K → Os → Prop) (m0 : Nat) (h0 : I m0 env os)
    (hs : ∀ m env' os' g' h' σ', I m env' os' → S0 b g' h' σ' env' os' → ∃ c, EvT tc env' os' c ∧
      (c = true → ∀ g2 h2 (N : L2.St → Hp → Prop), S0 b g2 h2 σ' env' os' → (∀ m3 env3 os3 g3 h3 σ3, m3 < m → I m3 env3 os3 → S0 b g3 h3 σ3 env3 os3 → N σ3 h3) → tb { D with nx := N, ct := N, bk := D.nx } σ' h2) ∧
      (c = false → ∀ g2 h2, S0 b g2 h2 σ' env' os' → D.nx σ' h2)) : tWhile tc tb D σ h := by
  refine ⟨fun m σ h => ∃ g env os, I m env os ∧ S0 b g h σ env os, ⟨m0, g, env, os, h0, s⟩, ?_⟩
  rintro m σ' h' ⟨g', env', os', hI, s'⟩
  obtain ⟨c, e, k1, k2⟩ := hs m env' os' g' h' σ' hI s'
  refine e s' fun g2 h2 l => ?_
  cases c with
  | true => exact ⟨fun σ h => ∃ m', m' < m ∧ ∃ g env os, I m' env os ∧ S0 b g h σ env os, fun σ3 h3 ⟨m', hm, q⟩ => ⟨m', hm, q⟩, k1 rfl g2 h2 _ (s'.le l) fun m3 env3 os3 g3 h3 σ3 hm hI3 s3 => ⟨m3, hm, g3, env3, os3, hI3, s3⟩⟩
  | false => exact k2 rfl g2 h2 (s'.le l)

/-! ### owned lists -/
def Own.lst (K : PySem.W.Frag) {α : Type} [i : Py K α] (xs : List α) : Own := ⟨fun g o => ∃ vs, o = .lst vs ∧ Paired (i.R g) vs xs, fun {g g' o} e ⟨vs, h1, h2⟩ => ⟨vs, h1, pr_mono e h2⟩⟩
/-- x = [..], the list to be changed later -/
theorem st_new {xs : List α} {tl : TA} (s : S0 b g h σ env os) (e : EvL tl env os xs) (hl : xs.length ≤ 100000) (k : ∀ l g' h', S0 b g' h' (σ.set i (some (.ref l))) (env.set i (sv (V.ref l))) (os ++ [(l, Own.lst K xs)]) → D.nx (σ.set i (some (.ref l))) h') : tAsg (tLst tl) (gName i) D σ h :=
  e s fun vs g1 h1 l1 r1 => ⟨by rw [r1.length]; exact Nat.le_trans hl (by decide), fun p hp => k p g1 _ (((s.le l1).add (w := Own.lst K xs) hp ⟨vs, rfl, r1⟩).set ⟨_, rfl, rfl⟩)⟩
/-- x = e, e's value a new list of xs (by a display, a slice, list(), a comprehension ..), to be changed later: it must be new -/
def EvN (te : TE) (env : Env K) (os : Os) (xs : List α) : Prop :=
  ∀ {b : Bs} {g h : Hp} {σ : L2.St} {Q : VK}, S0 b g h σ env os → (∀ l vs g' h', Le g h g' h' → h' l = none → Paired (iα.R g') vs xs → Q (.ref l) (upd h' l (.lst vs))) → te σ h Q
theorem en_lst {xs : List α} {tl : TA} (e : EvL tl env os xs) (hl : xs.length ≤ 100000) : EvN (tLst tl) env os xs := fun {b g h σ Q} s q =>
  e s fun vs g1 h1 l1 r1 => ⟨by rw [r1.length]; exact Nat.le_trans hl (by decide), fun p hp => q p vs g1 h1 l1 hp r1⟩
theorem en_listL {xs : List α} (ha : Ev ta env os xs) : EvN (tCB (fun xs H Q => ∃ p ys, xs = [V.ref p] ∧ (SqL K H p ys ∨ SqT K H p ys) ∧ ∀ l, H l = none → Q (.ref l) (upd H l (.lst ys))) (tCons ta tNil)) env os xs := fun {b g h σ Q} s q =>
  ha s fun v g1 h1 l1 r1 => by
    obtain ⟨a, vs, rfl, h2, h3⟩ := r1
    exact ⟨a, vs, rfl, .inl (l1.gh.seq h2), fun l hl => q l vs g1 h1 l1 hl h3⟩
theorem en_listT {xs : Tup α} (ha : Ev ta env os xs) : EvN (tCB (fun xs H Q => ∃ p ys, xs = [V.ref p] ∧ (SqL K H p ys ∨ SqT K H p ys) ∧ ∀ l, H l = none → Q (.ref l) (upd H l (.lst ys))) (tCons ta tNil)) env os xs.l := fun {b g h σ Q} s q =>
  ha s fun v g1 h1 l1 r1 => by
    obtain ⟨a, vs, rfl, h2, h3⟩ := r1
    exact ⟨a, vs, rfl, .inr (same_tup l1.gh h2), fun l hl => q l vs g1 h1 l1 hl h3⟩
theorem st_setN {xs : List α} (s : S0 b g h σ env os) (e : EvN te env os xs) (k : ∀ l g' h', S0 b g' h' (σ.set i (some (.ref l))) (env.set i (sv (V.ref l))) (os ++ [(l, Own.lst K xs)]) → D.nx (σ.set i (some (.ref l))) h') : tAsg te (gName i) D σ h :=
  e s fun l vs g1 h1 l1 hl r1 => k l g1 _ (((s.le l1).add (w := Own.lst K xs) hl ⟨vs, rfl, r1⟩).set ⟨_, rfl, rfl⟩)
/-- x.append(e) -/
theorem st_append {m : Nat} {l : Addr} {xs : List α} {x : α} (s : S0 b g h σ env os) (hx : env[i]? = some (.val V inferInstance (V.ref l))) (ho : os[m]? = some (l, Own.lst K xs)) (hl : xs.length < sizeLine) (e : Ev te env os x)
    (k : ∀ g' h', S0 b g' h' σ env (os.set m (l, Own.lst K (xs ++ [x]))) → D.nx σ h') : tDrop (tBM K "list" rAppend (tVar i) (tCons te tNil)) D σ h := by
  unfold tDrop tBM
  refine ev_var hx s fun v g1 h1 l1 r1 => ?_
  cases r1
  have s1 := s.le l1
  obtain ⟨n1, o, e1, vs, rfl, p1⟩ := s1.own _ (List.mem_of_getElem? ho)
  refine ⟨.inl ⟨rfl, vs, SqL.of e1⟩, e s1 fun v g2 h2 l2 r2 => ?_⟩
  have s2 := s1.le l2
  obtain ⟨n2, o, e2, ws, rfl, p2⟩ := s2.own _ (List.mem_of_getElem? ho)
  exact ⟨l, ws, v, rfl, rfl, e2, by rw [p2.length]; exact hl, k g2 _ (s2.put (w' := Own.lst K (xs ++ [x])) ho ⟨_, rfl, paired_append p2 (.cons r2 .nil)⟩)⟩
/-- an owned list is looked at -/
theorem own_seq {m : Nat} {l : Addr} {xs : List α} (s : S0 b g h σ env os) (ho : os[m]? = some (l, Own.lst K xs)) : ∃ vs, h l = some (.lst vs) ∧ Paired (iα.R g) vs xs := by
  obtain ⟨n1, o, e1, vs, rfl, p1⟩ := s.own _ (List.mem_of_getElem? ho)
  exact ⟨vs, e1, p1⟩
theorem ev_lenO {m : Nat} {l : Addr} {xs : List α} (hx : env[i]? = some (.val V inferInstance (V.ref l))) (ho : os[m]? = some (l, Own.lst K xs)) : Ev (tCB (fun xs H Q => ∃ p ys, xs = [V.ref p] ∧ (SqL K H p ys ∨ SqT K H p ys) ∧ Q (.int ys.length) H) (tCons (tVar i) tNil)) env os (xs.length : Int) := fun {b g h σ Q} s q =>
  ev_var hx s fun v g1 h1 l1 r1 => by
    cases r1
    obtain ⟨vs, e, p⟩ := own_seq (s.le l1) ho
    exact ⟨l, vs, rfl, .inl (SqL.of e), q _ _ _ l1 (by rw [p.length]; rfl)⟩
theorem ev_ixO {m : Nat} {l : Addr} {xs : List α} {x : α} {n : Int} (hx : env[i]? = some (.val V inferInstance (V.ref l))) (ho : os[m]? = some (l, Own.lst K xs)) (hb : Ev tb env os n) (hn : atI xs n = some x) : Ev (tOp (rIxL K) (tVar i) tb) env os x := fun {b g h σ Q} s q =>
  ev_var hx s fun v g1 h1 l1 r1 => hb (s.le l1) fun w g2 h2 l2 r2 => by
    cases r1
    obtain ⟨vs, e, p⟩ := own_seq ((s.le l1).le l2) ho
    obtain ⟨v, e', r⟩ := atI_map p hn
    exact ⟨l, vs, n, v, rfl, r2, SqL.of e, e', q _ _ _ (l1.trans l2) r⟩
theorem ev_sumO {m : Nat} {l : Addr} {xs : List Int} (hx : env[i]? = some (.val V inferInstance (V.ref l))) (ho : os[m]? = some (l, Own.lst K xs)) : Ev (tCB (rSum K) (tCons (tVar i) tNil)) env os xs.sum := fun {b g h σ Q} s q =>
  ev_var hx s fun v g1 h1 l1 r1 => by
    cases r1
    obtain ⟨vs, e, p⟩ := own_seq (s.le l1) ho
    refine ⟨l, xs, rfl, ?_, q _ _ _ l1 rfl⟩
    rw [← paired_eq p]
    exact SqL.of e
theorem ev_tupleO {m : Nat} {l : Addr} {xs : List α} (hx : env[i]? = some (.val V inferInstance (V.ref l))) (ho : os[m]? = some (l, Own.lst K xs)) : Ev (tCB (fun xs H Q => ∃ p ys, xs = [V.ref p] ∧ ((SqL K H p ys ∧ ∀ l, H l = none → Q (.ref l) (upd H l (.tup ys))) ∨ (SqT K H p ys ∧ Q (.ref p) H))) (tCons (tVar i) tNil)) env os (Tup.mk xs) := fun {b g h σ Q} s q =>
  ev_var hx s fun v g1 h1 l1 r1 => by
    cases r1
    obtain ⟨vs, e, p⟩ := own_seq (s.le l1) ho
    exact ⟨l, vs, rfl, .inl ⟨SqL.of e, fun t ht => q _ (upd g1 t (.tup vs)) _ (l1.trans (Le.laid l1.gh ht)) ⟨t, vs, rfl, upd_same, pr_mono (Le.laid l1.gh ht).gg p⟩⟩⟩
theorem ixN_eq {n : Nat} {k : Int} (h0 : 0 ≤ k) (h1 : k < n) : ixN n k = some k.toNat := by unfold ixN; rw [if_pos h0, if_pos h1]
/-- x[k] = e on an owned list -/
theorem st_setO {m : Nat} {l : Addr} {xs : List α} {x : α} {n : Int} (s : S0 b g h σ env os) (e : Ev te env os x) (hx : env[i]? = some (.val V inferInstance (V.ref l))) (ho : os[m]? = some (l, Own.lst K xs)) (hb : Ev tb env os n) (h0 : 0 ≤ n) (h1 : n < xs.length)
    (k : ∀ g' h', S0 b g' h' σ env (os.set m (l, Own.lst K (xs.set n.toNat x))) → D.nx σ h') : tAsg te (gSub (tVar i) tb rSetL) D σ h :=
  e s fun v g1 h1' l1 r1 => ev_var hx (s.le l1) fun w g2 h2 l2 r2 => hb ((s.le l1).le l2) fun u g3 h3 l3 r3 => by
    cases r2
    have s3 := ((s.le l1).le l2).le l3
    obtain ⟨vs, e', p⟩ := own_seq s3 ho
    exact ⟨l, vs, n, n.toNat, rfl, r3, e', ixN_eq h0 (by rw [p.length]; exact h1), k g3 _ (s3.put (w' := Own.lst K (xs.set n.toNat x)) ho ⟨_, rfl, paired_set (iα.mono (l2.gg.trans l3.gg) r1) _ p⟩)⟩

/-- the list that a name owns is changed no more: it becomes a value -/
theorem S0.freeze {m : Nat} {l : Addr} {xs : List α} (s : S0 b g h σ env os) (hx : env[i]? = some (.val V inferInstance (V.ref l))) (ho : os[m]? = some (l, Own.lst K xs)) (hb : b.ls = []) : ∃ g', S0 b g' h σ (env.set i (sv xs)) (os.eraseIdx m) := by
  obtain ⟨n1, o, e1, vs, rfl, p1⟩ := s.own _ (List.mem_of_getElem? ho)
  have hm := List.mem_of_getElem? ho
  have nb : b.h l = none := by
    rcases s.ol _ hm with z | z
    · exact z
    · rw [hb] at z; cases z
  have lg : Same g (upd g l (.lst vs)) := fun c u q => by rw [upd_ne (ne_of_none q n1)]; exact q
  have nin : ∀ p ∈ os.eraseIdx m, p ∈ os ∧ p.1 ≠ l := fun p hp => by
    obtain ⟨j, hj, hjm⟩ := List.mem_eraseIdx_iff_getElem?.mp hp
    refine ⟨List.mem_of_getElem? hjm, fun z => ?_⟩
    have a1 : (os.map (·.1))[j]? = some l := by rw [List.getElem?_map, hjm]; exact congrArg some z
    have a2 : (os.map (·.1))[m]? = some l := by rw [List.getElem?_map, ho]; rfl
    exact hj ((List.getElem?_inj (by rw [List.length_map]; exact (List.getElem?_eq_some_iff.mp hjm).1) s.nd).mp (a1.trans a2.symm))
  refine ⟨upd g l (.lst vs), fun c u q => ?_, by rw [List.length_set]; exact s.len, fun n t e => ?_, fun p hp => ?_, ?_, s.gg.trans lg, s.fr, s.th, fun a n m => ?_, fun p hp => s.ol p (nin p hp).1⟩
  · by_cases hc : c = l
    · subst hc; rw [upd_same] at q; cases q; exact e1
    · rw [upd_ne hc] at q; exact s.gh _ _ q
  · by_cases hn : i = n
    · subst hn
      have hl : i < env.length := (List.getElem?_eq_some_iff.mp hx).1
      rw [List.getElem?_set_self hl] at e
      cases e
      obtain ⟨v, q1, q2⟩ := s.sl i _ hx
      cases q2
      exact ⟨_, q1, l, vs, rfl, .inl (.inl upd_same), pr_mono lg p1⟩
    · rw [List.getElem?_set_ne hn] at e
      exact Slot.ok_mono lg (s.sl n t e)
  · obtain ⟨hp1, hp2⟩ := nin p hp
    obtain ⟨n2, o2, e2, q2⟩ := s.own p hp1
    exact ⟨by rw [upd_ne hp2]; exact n2, o2, e2, p.2.mono lg q2⟩
  · have : ((os.eraseIdx m).map (·.1)).Sublist (os.map (·.1)) := (List.eraseIdx_sublist os m).map _
    exact this.nodup s.nd
  · rw [upd_ne (fun z => by rw [z, nb] at m; exact m rfl)]
    exact s.new a n m
end
end Lw
/-! Comprehensions; the promises of defs; calls. -/
namespace Lw
open PySem PySem.Spec PyProof.Rows L2
section
variable {K : PySem.W.Frag} {env : Env K} {os : Os} {ta tb te tx tl : TE} {t u tt : TT} {α β γ : Type} [iα : Py K α] [iβ : Py K β] [iγ : Py K γ]
variable {b : Bs} {g h : Hp} {σ : L2.St} {D : Ends} {t1 t2 : TS} {i j : Nat}

/-! ### comprehensions -/
theorem et_yes : EvT tYes env os true := fun {b g h σ Q} s q => q g h (Le.refl s.gh)
abbrev wiped (env : Env K) (vs : List Nat) : Env K := vs.foldr (fun v e => List.set e v Slot.unk) env
theorem S0.wipe {vs : List Nat} (s : S0 b g h σ env os) : S0 b g h (L2.wipe σ vs) (wiped env vs) os := by
  induction vs with
  | nil => exact s
  | cons v vs ih =>
    show S0 b g h ((L2.wipe σ vs).set v none) ((wiped env vs).set v Slot.unk) os
    refine { ih with len := by rw [List.length_set, List.length_set]; exact ih.len, sl := fun n t e => ?_ }
    by_cases hn : v = n
    · subst hn
      have hl : v < (wiped env vs).length := by
        have := (List.getElem?_eq_some_iff.mp e).1
        rwa [List.length_set] at this
      rw [List.getElem?_set_self hl] at e
      cases e
      trivial
    · rw [List.getElem?_set_ne hn] at e ⊢
      exact ih.sl n t e
theorem S0.drop {os' : Os} (s : S0 b g h σ env (os ++ os')) : S0 b g h σ env os :=
  { s with
    own := fun p hp => s.own p (List.mem_append_left _ hp)
    nd := by have := s.nd; rw [List.map_append] at this; exact (List.nodup_append.mp this).1
    ol := fun p hp => s.ol p (List.mem_append_left _ hp) }
/-- what a comprehension's block keeps: the new list D holds the items made so far -/
structure LcI (K : PySem.W.Frag) {β : Type} [iβ : Py K β] (env : Env K) (os : Os) (b : Bs) (ga ha : Hp) (σ : L2.St) (vs : List Nat) (D : Addr) (acc : List β) (H : Hp) : Prop where
  ex : ∃ g', S0 b g' H (L2.wipe σ vs) (wiped env vs) (os ++ [(D, Own.lst K acc)]) ∧ Same ga g' ∧ (∀ a, ga a = none → ha a ≠ none → g' a = none)
  hh : ∀ a o, ha a = some o → H a = some o
  dn : ha D = none
theorem LcI.start {ga ha : Hp} {Dd : Addr} (s : S0 b ga ha σ env os) (hd : ha Dd = none) (vs : List Nat) : LcI K (β := β) env os b ga ha σ vs Dd [] (upd ha Dd (.lst [])) where
  ex := ⟨ga, (s.wipe.add (w := Own.lst K ([] : List β)) hd ⟨[], rfl, .nil⟩), Same.refl _, fun _ n _ => n⟩
  hh := fun a o q => by rw [upd_ne (ne_of_none q hd)]; exact q
  dn := hd
theorem last_at {p : Addr × Own} : (os ++ [p])[os.length]? = some p := by simp
theorem last_set {p q : Addr × Own} : (os ++ [p]).set os.length q = os ++ [q] := by simp
/-- the end: all but D's own list is as a pure step leaves it -/
theorem LcI.done {ga ha H : Hp} {vs : List Nat} {Dd : Addr} {acc : List β} {Q : VK} (I : LcI K env os b ga ha σ vs Dd acc H) (q : ∀ l ws g' h', Le ga ha g' h' → h' l = none → Paired (iβ.R g') ws acc → Q (.ref l) (upd h' l (.lst ws))) : Q (.ref Dd) H := by
  obtain ⟨g', s, e1, e2⟩ := I.ex
  obtain ⟨nD, o, eD, ws, rfl, p⟩ := s.own (Dd, Own.lst K acc) (by simp)
  have hH : H = upd (fun a => if a = Dd then none else H a) Dd (.lst ws) := by
    funext a
    by_cases ha' : a = Dd
    · subst ha'; rw [upd_same]; exact eD
    · rw [upd_ne ha']; exact (if_neg ha').symm
  rw [hH]
  refine q Dd ws g' _ ⟨e1, fun a o z => ?_, fun a o z => ?_, e2⟩ (if_pos rfl) p
  · have : a ≠ Dd := ne_of_none z I.dn
    show (if a = Dd then none else H a) = some o
    rw [if_neg this]; exact I.hh a o z
  · have : a ≠ Dd := fun w => by rw [w, show g' Dd = none from nD] at z; cases z
    show (if a = Dd then none else H a) = some o
    rw [if_neg this]; exact s.gh a o z
/-- one turn -/
theorem LcI.turn {ga ha H : Hp} {vs : List Nat} {Dd : Addr} {acc : List β} {gt : TG} {f : Env K → α → Env K} {v : V} {x : α} {c : Bool} {y : β} {Nx : Hp → Prop} (I : LcI K env os b ga ha σ vs Dd acc H) (hg : TgtF (K := K) gt vs f)
    (rx : ∀ g', Same ga g' → iα.R g' v x) (ht : EvT tt (f (wiped env vs) x) os c) (he : c = true → Ev te (f (wiped env vs) x) os y) (hl : acc.length < sizeLine) (hw : L2.wipe (L2.wipe σ vs) vs = L2.wipe σ vs)
    (hN : ∀ H', LcI K env os b ga ha σ vs Dd (if c = true then acc ++ [y] else acc) H' → Nx H') :
    gt v (L2.wipe σ vs) H fun σ2 H2 => L2.wipe σ2 vs = L2.wipe σ vs ∧ tt σ2 H2 fun b H3 => if b = true then te σ2 H3 fun y H4 => ∃ acc, H4 Dd = some (.lst acc) ∧ acc.length < sizeLine ∧ Nx (upd H4 Dd (.lst (acc ++ [y]))) else Nx H3 := by
  obtain ⟨g', s, e1, e2⟩ := I.ex
  refine hg s.drop (rx g' e1) fun σ2 w2 s2 => ⟨w2.trans hw, ht s2 fun g3 h3 l3 => ?_⟩
  have hh3 : ∀ a o, ha a = some o → h3 a = some o := fun a o z => l3.hh a o (I.hh a o z)
  have new3 : ∀ a, ga a = none → ha a ≠ none → g3 a = none := fun a n m => l3.new a (e2 a n m) (sameNe I.hh m)
  cases c with
  | false => exact hN h3 ⟨⟨g3, s.le l3, e1.trans l3.gg, new3⟩, hh3, I.dn⟩
  | true =>
    refine he rfl (s2.le l3) fun w g4 h4 l4 r4 => ?_
    have s4 := (s.le l3).le l4
    obtain ⟨nD, o, eD, ws, rfl, p⟩ := s4.own (Dd, Own.lst K acc) (by simp)
    refine ⟨ws, eD, by rw [p.length]; exact hl, hN _ ⟨⟨g4, ?_, (e1.trans l3.gg).trans l4.gg, fun a n m => l4.new a (new3 a n m) (sameNe hh3 m)⟩, fun a o z => ?_, I.dn⟩⟩
    · have := s4.put (w' := Own.lst K (acc ++ [y])) (o := .lst (ws ++ [w])) last_at ⟨_, rfl, paired_append p (.cons r4 .nil)⟩
      rw [last_set] at this
      exact this
    · rw [upd_ne (ne_of_none z I.dn)]; exact l4.hh a o (hh3 a o z)
theorem filter_take {p : α → Bool} {f : α → β} {xs : List α} {n : Nat} {x : α} (h : xs[n]? = some x) : ((xs.take (n + 1)).filter p).map f = if p x = true then ((xs.take n).filter p).map f ++ [f x] else ((xs.take n).filter p).map f := by
  rw [List.take_add_one, h, List.filter_append, List.map_append]
  cases hp : p x <;> simp [hp]
theorem wipe_wipe {vs : List Nat} : L2.wipe (L2.wipe σ vs) vs = L2.wipe σ vs := by
  have key : ∀ (ws : List Nat) (τ : L2.St), (∀ v ∈ ws, τ.set v none = τ) → L2.wipe τ ws = τ := by
    intro ws
    induction ws with
    | nil => intro τ _; rfl
    | cons w ws ih =>
      intro τ hτ
      show (L2.wipe τ ws).set w none = τ
      rw [ih τ fun v hv => hτ v (List.mem_cons_of_mem _ hv)]
      exact hτ w List.mem_cons_self
  refine key vs _ fun v hv => ?_
  induction vs with
  | nil => cases hv
  | cons w ws ih =>
    show ((L2.wipe σ ws).set w none).set v none = (L2.wipe σ ws).set w none
    by_cases hvw : v = w
    · subst hvw; rw [List.set_set]
    · rw [List.set_comm none none (Ne.symm hvw), ih ((List.mem_cons.mp hv).resolve_left hvw)]
/-- [e for target in a list of xs if ..] -/
theorem en_lcL {xs : List α} {vs : List Nat} {gt : TG} {f : Env K → α → Env K} {p : α → Bool} {m : α → β} (hg : TgtF (K := K) gt vs f) (hx : Ev tl env os xs) (ht : ∀ x ∈ xs, EvT tt (f (wiped env vs) x) os (p x))
    (he : ∀ x ∈ xs, p x = true → Ev te (f (wiped env vs) x) os (m x)) (hl : xs.length ≤ 1000000) : EvN (tLc (iList K tl) gt tt te vs) env os ((xs.filter p).map m) := fun {b g h σ Q} s q => by
  refine hx s fun v g1 h1 l1 r1 => ?_
  obtain ⟨a, us, rfl, hq, hp⟩ := r1
  refine ⟨a, rfl, ⟨us, l1.gh.seq hq⟩, fun Dd hD => lc_list (K := K) (a := a) (xs := us) (fun n H => LcI K env os b g1 h1 σ vs Dd (((xs.take n).filter p).map m) H) (LcI.start (s.le l1) hD vs) (fun n H _ I => ?_) (fun n x H hn I => ?_) (fun H I => ?_)⟩
  · obtain ⟨g', s', e1, _⟩ := I.ex
    exact (e1.trans s'.gh).seq hq
  · obtain ⟨y, hy, ry⟩ := paired_getL hp hn
    have hm := List.mem_of_getElem? hy
    refine I.turn hg (fun g' e => iα.mono e ry) (ht y hm) (he y hm) ?_ wipe_wipe fun H' I' => by rw [filter_take hy]; exact I'
    refine Nat.lt_of_le_of_lt (Nat.le_trans (by rw [List.length_map]; exact List.length_filter_le _ _) (List.length_take_le _ _)) ?_
    exact Nat.lt_of_le_of_lt (by
      have := (List.getElem?_eq_some_iff.mp hy).1
      omega) (by decide : 1000000 < sizeLine)
  · rw [hp.length, List.take_length] at I
    exact I.done fun l ws g' h' le hn' pr => q l ws g' h' (l1.trans le) hn' pr
theorem en_lcT {xs : Tup α} {vs : List Nat} {gt : TG} {f : Env K → α → Env K} {p : α → Bool} {m : α → β} (hg : TgtF (K := K) gt vs f) (hx : Ev tl env os xs) (ht : ∀ x ∈ xs.l, EvT tt (f (wiped env vs) x) os (p x))
    (he : ∀ x ∈ xs.l, p x = true → Ev te (f (wiped env vs) x) os (m x)) (hl : xs.l.length ≤ 1000000) : EvN (tLc (iTup K tl) gt tt te vs) env os ((xs.l.filter p).map m) := fun {b g h σ Q} s q => by
  refine hx s fun v g1 h1 l1 r1 => ?_
  obtain ⟨a, us, rfl, hq, hp⟩ := r1
  refine ⟨a, rfl, ⟨us, same_tup l1.gh hq⟩, fun Dd hD => lc_tup (K := K) (a := a) (xs := us) (fun n H => LcI K env os b g1 h1 σ vs Dd (((xs.l.take n).filter p).map m) H) (LcI.start (s.le l1) hD vs) (fun n H _ I => ?_) (fun n x H hn I => ?_) (fun H I => ?_)⟩
  · obtain ⟨g', s', e1, _⟩ := I.ex
    exact same_tup (e1.trans s'.gh) hq
  · obtain ⟨y, hy, ry⟩ := paired_getL hp hn
    have hm := List.mem_of_getElem? hy
    refine I.turn hg (fun g' e => iα.mono e ry) (ht y hm) (he y hm) ?_ wipe_wipe fun H' I' => by rw [filter_take hy]; exact I'
    refine Nat.lt_of_le_of_lt (Nat.le_trans (by rw [List.length_map]; exact List.length_filter_le _ _) (List.length_take_le _ _)) ?_
    exact Nat.lt_of_le_of_lt (by
      have := (List.getElem?_eq_some_iff.mp hy).1
      omega) (by decide : 1000000 < sizeLine)
  · rw [hp.length, List.take_length] at I
    exact I.done fun l ws g' h' le hn' pr => q l ws g' h' (l1.trans le) hn' pr
/-- the upto from 0 to n - 1 -/
def upto (n : Nat) : List Int := (List.range n).map fun (k : Nat) => (k : Int)
theorem upto_get {n k : Nat} (h : k < n) : (upto n)[k]? = some (k : Int) := by unfold upto; rw [List.getElem?_map, List.getElem?_range h]; rfl
theorem upto_len {n : Nat} : (upto n).length = n := by unfold upto; simp
theorem mem_upto {n : Nat} {x : Int} : x ∈ upto n ↔ 0 ≤ x ∧ x < n := by
  unfold upto
  rw [List.mem_map]
  constructor
  · rintro ⟨k, hk, rfl⟩
    rw [List.mem_range] at hk
    omega
  · intro ⟨h1, h2⟩
    exact ⟨x.toNat, by rw [List.mem_range]; omega, by omega⟩
/-- [e for k in range(n) if ..] -/
theorem en_lcR {n : Int} {p : Int → Bool} {m : Int → β} (hx : Ev tl env os n) (ht : ∀ x ∈ upto n.toNat, EvT tt ((wiped env [i]).set i (sv x)) os (p x))
    (he : ∀ x ∈ upto n.toNat, p x = true → Ev te ((wiped env [i]).set i (sv x)) os (m x)) (hl : n ≤ 1000000) (hl0 : -(2 ^ 62) ≤ n) : EvN (tLc (iRng1 (tCons tl tNil)) (gName i) tt te [i]) env os (((upto n.toNat).filter p).map m) := fun {b g h σ Q} s q => by
  refine hx s fun v g1 h1 l1 r1 => ?_
  cases r1
  refine ⟨n, rfl, hl0, by omega, fun Dd hD => lc_range (lo := 0) (n := n.toNat) (fun k H => LcI K env os b g1 h1 σ [i] Dd ((((upto n.toNat).take k).filter p).map m) H) (LcI.start (s.le l1) hD [i]) (fun k H hk I => ?_) (fun H I => ?_)⟩
  · have hy := upto_get hk
    have hm := List.mem_of_getElem? hy
    refine I.turn (tgt_name (α := Int)) (fun g' e => ?_) (ht _ hm) (he _ hm) ?_ wipe_wipe fun H' I' => by rw [filter_take hy]; exact I'
    · show V.int (0 + (k : Int)) = V.int (k : Int)
      rw [Int.zero_add]
    · refine Nat.lt_of_le_of_lt (Nat.le_trans (by rw [List.length_map]; exact List.length_filter_le _ _) (List.length_take_le _ _)) ?_
      exact Nat.lt_of_le_of_lt (by omega) (by decide : 1000000 < sizeLine)
  · rw [List.take_of_length_le (by rw [upto_len]; exact Nat.le_refl _)] at I
    exact I.done fun l ws g' h' le hn' pr => q l ws g' h' (l1.trans le) hn' pr
/-- a new list, taken as a value that does not change -/
theorem EvN.ev {xs : List α} (h : EvN te env os xs) : Ev te env os xs := fun {b g h' σ Q} s q => h s fun l vs g1 h1 l1 hl p =>
  q _ (upd g1 l (.lst vs)) _ (l1.trans (Le.laid l1.gh hl)) ⟨l, vs, rfl, .inl (.inl upd_same), pr_mono (Le.laid l1.gh hl).gg p⟩
theorem filter_true {xs : List α} {m : α → β} : (xs.filter fun _ => true).map m = xs.map m := by rw [List.filter_eq_self.mpr (fun _ _ => rfl)]
/-- without a test -/
theorem EvN.all {xs : List α} {m : α → β} (h : EvN te env os ((xs.filter fun _ => true).map m)) : EvN te env os (xs.map m) := by rw [filter_true] at h; exact h

/-! ### promises -/
/-- a def that changes nothing: A says which arguments it takes and what is wanted of the answer -/
def SpR (K : PySem.W.Frag) {γ : Type} [iγ : Py K γ] (A : List (Slot K) → (γ → Prop) → Prop) : Sp := fun vs H Q _ =>
  ∃ (g : Hp) (xs : List (Slot K)) (P : γ → Prop), A xs P ∧ Same g H ∧ Args g vs xs ∧ ∀ v z g' H', P z → Le g H g' H' → iγ.R g' v z → Q v H'
theorem args_len {g : Hp} {vs : List V} {xs : List (Slot K)} (h : Args g vs xs) : vs.length = xs.length := by
  induction h with
  | nil => rfl
  | cons _ _ ih => rw [List.length_cons, List.length_cons, ih]
theorem args_append {g : Hp} {vs ws : List V} {xs ys : List (Slot K)} (h : Args g vs xs) (k : Args g ws ys) : Args g (vs ++ ws) (xs ++ ys) := by
  induction h with
  | nil => exact k
  | cons r _ ih => exact .cons r ih
theorem args_get {g : Hp} {vs : List V} {xs : List (Slot K)} (h : Args g vs xs) : ∀ {n : Nat} {t : Slot K}, xs[n]? = some t → t.ok g (vs[n]?) := by
  induction h with
  | nil => intro n t e; simp at e
  | cons r _ ih =>
    intro n t e
    cases n with
    | zero => simp at e; subst e; exact r
    | succ n => exact ih (by simpa using e)
theorem S0.start {N : List Str} {vs : List V} {xs : List (Slot K)} {H : Hp} (gh : Same g H) (r : Args g vs xs) : S0 ⟨[], g, H⟩ g H (L2.start N vs) (xs ++ List.replicate (N.length - xs.length) .unk) [] where
  gh := gh
  len := by unfold L2.start; rw [List.length_append, List.length_append, List.length_map, List.length_replicate, List.length_replicate, args_len r]
  sl := fun n t e => by
    by_cases hn : n < xs.length
    · rw [List.getElem?_append_left hn] at e
      have q := args_get r e
      have : (L2.start N vs)[n]?.join = vs[n]? := by
        unfold L2.start
        rw [List.getElem?_append_left (by rw [List.length_map, args_len r]; exact hn), List.getElem?_map]
        cases vs[n]? <;> rfl
      rw [this]
      exact q
    · rw [List.getElem?_append_right (by omega)] at e
      have := List.mem_of_getElem? e
      rw [List.mem_replicate] at this
      rw [this.2]
      trivial
  own := fun p hp => by cases hp
  nd := by simp
  gg := Same.refl _
  fr := fun a o _ q => q
  th := fun a n => n
  new := fun a n _ => n
  ol := fun p hp => by cases hp
/-- a call -/
theorem ev_call {A : List (Slot K) → (γ → Prop) → Prop} {xs ds : List (Slot K)} {dvs : List V} {z : γ} {E : XK} {ta : TA} (h : EvA ta env os xs) (hA : A (xs ++ ds) (fun y => y = z)) (hd : ∀ g, Args g dvs ds := by exact fun _ => .nil) : Ev (tCall (SpR K A) dvs E ta) env os z := fun {b g h' σ Q} s q =>
  h s fun vs g1 h1 l1 r1 => ⟨g1, xs ++ ds, _, hA, l1.gh, args_append r1 (hd g1), fun v z' g2 h2 hz l2 r2 => q v g2 h2 (l1.trans l2) (hz ▸ r2)⟩
/-- .. whose answer is known in part -/
theorem s_call {A : List (Slot K) → (γ → Prop) → Prop} {xs ds : List (Slot K)} {dvs : List V} {P : γ → Prop} {E : XK} {ta : TA} {Q : VK} (s : S0 b g h σ env os) (e : EvA ta env os xs) (hA : A (xs ++ ds) P) (k : ∀ v z g' h', P z → S0 b g' h' σ env os → Same g g' → iγ.R g' v z → Q v h')
    (hd : ∀ g, Args g dvs ds := by exact fun _ => .nil) : tCall (SpR K A) dvs E ta σ h Q :=
  e s fun vs g1 h1 l1 r1 => ⟨g1, xs ++ ds, P, hA, l1.gh, args_append r1 (hd g1), fun v z g2 h2 hz l2 r2 => k v z g2 h2 hz ((s.le l1).le l2) (l1.gg.trans l2.gg) r2⟩
theorem SpR.imp {A B : List (Slot K) → (γ → Prop) → Prop} (h : ∀ xs P, B xs P → A xs P) (vs : List V) (H : Hp) (Q : VK) (E : XK) (q : SpR K B vs H Q E) : SpR K A vs H Q E :=
  let ⟨g, xs, P, a, r⟩ := q
  ⟨g, xs, P, h xs P a, r⟩
end
section
variable {P : Program} {w : World} {K : PySem.W.Frag} {mg : Str → Option Value} {base : Heap} {γ : Type} [iγ : Py K γ]
/-- a def that changes nothing keeps its promise -/
theorem okR {x qual : Str} {st : Stmt} {f : Addr} {fd : FuncData} {N ps : List Str} {k : Nat} {A : List (Slot K) → (γ → Prop) → Prop} (F : Fun K x qual st f fd) (S : FnScope N ps (defScope st)) (hlen : ∀ xs P', A xs P' → xs.length = ps.length)
    (hb : ∀ (cdv : Value) (Ar : Around) (outer : List PySem.Env) (s : Shared) (H : Hp) (E : XK), Room k (Ar.deeper (envOfC qual (defScope st) s.heap.objs.size f cdv)) → ∀ (xs : List (Slot K)) (P' : γ → Prop), A xs P' →
      ∃ t, PSs (cxOf CX0 P w K mg base N qual (defScope st) f cdv Ar outer s H E).nox (defBody st) t ∧
        ∀ (g : Hp) (σ : L2.St) (Q : VK), S0 ⟨[], g, H⟩ g H σ (xs ++ List.replicate (N.length - xs.length) .unk) [] →
          (∀ v z g' h' σ' env' os', P' z → S0 ⟨[], g, H⟩ g' h' σ' (env' : Env K) os' → iγ.R g' v z → Q v h') → t { nx := fun _ H' => Q .non H', rt := Q } σ H) : FnOk P w K mg base CX0 (k + 1) f fd ps (SpR K A) := by
  refine F.ok S (fun vs H Q E h => ?_) (fun cdv Ar outer s H vs Q E hr h => ?_)
  · obtain ⟨g, xs, P', hA, _, r, _⟩ := h
    rw [args_len r]
    exact hlen xs P' hA
  · obtain ⟨g, xs, P', hA, gh, r, q⟩ := h
    obtain ⟨t, ht, hq⟩ := hb cdv Ar outer s H E hr xs P' hA
    exact ⟨t, ht, hq g _ Q (S0.start gh r) fun v z g' h' σ' env' os' hz s' rz => q v z g' h' hz (s'.fin rfl) rz⟩
end
end Lw
/-! The text's facts behind its top; defs by their names. -/
namespace Lw
open PySem PySem.Spec PyProof.Rows L2
/-- what the head has told of the written part -/
structure Fx (fa : List He.Fa) (fn : List He.DefD) (ex : PySem.W.Frag → Bool) (K : PySem.W.Frag) (mg : Str → Option Value) : Prop where
  d : He.SaysD fa fn K
  more : ex K = true
  glo : ∀ x v, PySem.W.nsIn K mainGlobals x = some (some v) → mg x = some v
  gloN : ∀ x, PySem.W.nsIn K mainGlobals x = some none → mg x = none
theorem Fx.of {fa : List He.Fa} {fn : List He.DefD} {ex : PySem.W.Frag → Bool} {K : PySem.W.Frag} {mg : Str → Option Value} {w : World} {h h' : Heap} {ts : List He.Tab} {tf : List He.Defn} (X : K.In h) (G : h.Ns mainGlobals mg) (c : He.SaysX fa fn ts tf ex w h' K) : Fx fa fn ex K mg :=
  ⟨c.t.d, c.more, fun _ _ e => PySem.W.mg_of X G e, fun _ e => PySem.W.mg_none_of X G e⟩
/-- the def called x keeps the promise sp -/
def Cal (P : Program) (w : World) (K : PySem.W.Frag) (mg : Str → Option Value) (base : Heap) (x : Str) (k : Nat) (ps : List Str) (sp : Sp) : Prop :=
  ∃ f fd, mg x = some (.ref f) ∧ PySem.W.keepIn K (.ref f) = true ∧ Binds K fd ps [] ∧ FnOk P w K mg base CX0 k f fd ps sp
section
variable {fa : List He.Fa} {fn : List He.DefD} {ex : PySem.W.Frag → Bool} {K : PySem.W.Frag} {mg : Str → Option Value} {P : Program} {w : World} {base : Heap}
theorem Fx.free (E : Fx fa fn ex K mg) (i : Nat) {x : Str} (h : fa[i]? = some (.free x) := by rfl) : mg x = none := E.gloN _ (He.eqO_ok (E.d.fact i h))
theorem Fx.gref (E : Fx fa fn ex K mg) (i : Nat) {x : Str} (h : fa[i]? = some (.glo x) := by rfl) : mg x = some (.ref (He.ga K x)) := E.glo _ _ (He.eqO_ok (E.d.fact i h))
theorem Fx.cal (E : Fx fa fn ex K mg) (i j : Nat) {x : Str} {st : Stmt} {ps : List Str} {k : Nat} {sp : Sp} (hi : fn[i]? = some ⟨(x, none), x, x, defArgs st, defBody st, defScope st, [], []⟩) (hj : fa[j]? = some (.glo x))
    (hbi : ∀ (kV doc pm : Value) (an : Option Addr) (cdv ct : Value) (us : List Value), us.length = ps.length → bindArgs (PySem.W.fnOf x x (defArgs st) (defBody st) (defScope st) .none kV doc pm an cdv ct) ⟨us, []⟩ = pure (ps.zip us))
    (hf : ∀ f fd, FunD K x x (defArgs st) (defBody st) (defScope st) [] [] f fd → FnOk P w K mg base CX0 k f fd ps sp) : Cal P w K mg base x k ps sp := by
  obtain ⟨fd, F⟩ := E.d.def_ i hi
  exact ⟨_, fd, E.gref j hj, F.kp, F.bindsN hbi, hf _ fd F⟩
/-- a def that changes nothing -/
theorem okRD {γ : Type} [iγ : Py K γ] {x qual : Str} {st : Stmt} {f : Addr} {fd : FuncData} {N ps : List Str} {k : Nat} {A : List (Slot K) → (γ → Prop) → Prop} {dvs : List V} {kws : List (Str × V)} (F : FunD K x qual (defArgs st) (defBody st) (defScope st) dvs kws f fd) (S : FnScope N ps (defScope st)) (hlen : ∀ xs P', A xs P' → xs.length = ps.length)
    (hb : ∀ (cdv : Value) (Ar : Around) (outer : List PySem.Env) (s : Shared) (H : Hp) (E : XK), Room k (Ar.deeper (envOfC qual (defScope st) s.heap.objs.size f cdv)) → ∀ (xs : List (Slot K)) (P' : γ → Prop), A xs P' →
      ∃ t, PSs (cxOf CX0 P w K mg base N qual (defScope st) f cdv Ar outer s H E).nox (defBody st) t ∧
        ∀ (g : Hp) (σ : L2.St) (Q : VK), S0 ⟨[], g, H⟩ g H σ (xs ++ List.replicate (N.length - xs.length) .unk) [] →
          (∀ v z g' h' σ' env' os', P' z → S0 ⟨[], g, H⟩ g' h' σ' (env' : Env K) os' → iγ.R g' v z → Q v h') → t { nx := fun _ H' => Q .non H', rt := Q } σ H) : FnOk P w K mg base CX0 (k + 1) f fd ps (SpR K A) := by
  refine F.ok S (fun vs H Q E h => ?_) (fun cdv Ar outer s H vs Q E hr h => ?_)
  · obtain ⟨g, xs, P', hA, _, r, _⟩ := h
    rw [args_len r]
    exact hlen xs P' hA
  · obtain ⟨g, xs, P', hA, gh, r, q⟩ := h
    obtain ⟨t, ht, hq⟩ := hb cdv Ar outer s H E hr xs P' hA
    exact ⟨t, ht.nox, hq g _ Q (S0.start gh r) fun v z g' h' σ' env' os' hz s' rz => q v z g' h' hz (s'.fin rfl) rz⟩
end
section
variable {X : Cx} {x : Str} {k : Nat} {ps : List Str} {sp : Sp} {e : Expr} {es : List Expr} {p pos : Pos} {t : TA}
/-- a call of such a def -/
theorem pe_c (C : Cal X.prog X.w X.K X.mg X.base x k ps sp) (hr : Room k X.A) (hg : Gl X x) (ha : PA X (e :: es) t) (hdb : (x == ("__debug__" : Str)) = false := by decide)
    (he : starEach (e :: es) X.env = (false, eval e X.env) :: starEach es X.env := by rfl) (hpl : (backTo pos (starEach es X.env)).any (·.1) = false := by rfl) : PE X (.Call (.Name x p) (e :: es) [] pos) (tCall sp [] E0 t) := by
  obtain ⟨f, fd, gm, kp, bi, ok⟩ := C
  exact pe_call ok hr hg gm kp bi .nil pass0 ha hdb he hpl
end
end Lw
/-! An own exception's __init__ whose last statement is super().__init__('..'), over ValueError. -/
namespace Lw
open PySem PySem.Spec PySem.Calls PyProof.Rows L2 NdefX
/-- what the written part says of the class C behind a super(): the cell, the code, the way up -/
structure SupC (P : Program) (K : PySem.W.Frag) (C cc cda : Addr) : Prop where
  cls : OexC K C
  cell : ∃ c d s, K.lookup cc = some ⟨c, d, .cell (some (.ref C)), s⟩
  sub : PySem.W.mroIn K C (.ref C) = some true
  up : PySem.W.ks_superIn K C C "__init__" = some (some (.builtin "ValueError.__init__"))
  clean : PySem.W.nsIn K cStatics "thirdparty.any" = some none
  ve : PySem.W.subIn K (.ref C) (.type "ValueError") = some true
  code : ∃ c d vs s file tf, K.lookup cda = some ⟨c, d, .fields vs, s⟩ ∧ vs[2]? = some (.str file tf) ∧ ((P.main.file : Str) == file) = true
  top : (P.main.scope.names.lookup ("super" : Str)).isSome = false
section
variable {CX : CXT} {P : Program} {w : World} {K : PySem.W.Frag} {mg : Str → Option Value} {base : Heap} {N : List Str} {F : NF} {f : Addr} {A : Around} {outer : List PySem.Env} {s0 : Shared} {H0 : Hp} {E0 : XK}
/-- super().__init__('..') -/
theorem sup_run {C cc e : Addr} {d : Option Addr} {σ : L2.St} {H : Hp} {s : Shared} {D : Ends} {fd : FuncData} {oc : Value} {od : Option Addr} {osl : Array (Option Value)} {ar : PySem.Arg} {p0 p1 p2 p3 p4 p5 : Pos} {txt : Str} {kk : Nat}
    (T : SupC P K C cc F.c) (hcl : F.cl = [(("__class__" : Str), cc)]) (hk : F.scope.kind = .function) (hks : F.scope.names.lookup ("super" : Str) = some .globalImplicit) (hkc : F.scope.names.lookup ("__class__" : Str) = some .free) (hmg : mg "super" = none)
    (lk : K.lookup f = some ⟨oc, od, .func fd, osl⟩) (hp : (fd.params.posonlyargs ++ fd.params.args).head? = some ar) (hka : F.scope.names.lookup ar.arg = some .local) (hN : N[0]? = some ar.arg)
    (I : Inv (ncx CX P w K mg base N F f A outer s0 H0 E0) [] σ H s) (hσ : σ[0]? = some (some (.ref e))) (he : H e = some (exo e C d)) (q : D.nx σ H) {pl : Sem Bool}
    (hev : ∀ env : PySem.Env, eval (.Call (.Attribute (.Call (.Name "super" p0) [] [] p1) "__init__" p2) [.Constant (.str txt) kk p3] [] p4) env = (do
      let ov ← attributeBase (.Call (.Name "super" p0) [] [] p1) "__init__" env (eval (.Call (.Name "super" p0) [] [] p1) env)
      standAt p2.atName
      let (f, first) ← holding [ov] (getMethod ov "__init__" pl)
      callWith p4 f first (backTo p4 (starEach [.Constant (.str txt) kk p3] env)) [])) (hsw : swapsWith (.Call (.Attribute (.Call (.Name "super" p0) [] [] p1) "__init__" p2) [.Constant (.str txt) kk p3] [] p4) none p5.line (envF F f s0.heap.objs.size) = pure false) :
    PySem.wpAt (model P w) (ncx CX P w K mg base N F f A outer s0 H0 E0).A (.func F.body (envF F f s0.heap.objs.size)) (exec (.Expr (.Call (.Attribute (.Call (.Name "super" p0) [] [] p1) "__init__" p2) [.Constant (.str txt) kk p3] [] p4) p5) (envF F f s0.heap.objs.size))
      (SP (ncx CX P w K mg base N F f A outer s0 H0 E0) [] D) (ncx CX P w K mg base N F f A outer s0 H0 E0).xe s := by
  obtain ⟨cc1, cd1, cs1, hcell⟩ := T.cell
  obtain ⟨k1, k2, vs, k3, file, tf, hcode, hvs, hfile⟩ := T.code
  obtain ⟨nm, qn, N', bs, bm, sn, sub, ab, col, dd, k0, k1', k2', k3', k5, hC, hbm⟩ := T.cls.cls
  have KX := I.kIn
  have hCc : PySem.W.clsIn K C = some { name := nm, bases := bs, mro := .ref C :: bm, ns := N', qualname := qn, hasDict := true, slotNames := sn, subclasses := sub, abstract := ab, collection := col, hasDel := false } := by unfold PySem.W.clsIn; rw [hC] <;> rfl
  obtain ⟨t1, ho⟩ := exo_at I.hok he
  obtain ⟨mb, hb1, hb2⟩ := I.mod.blt
  obtain ⟨m, hns, hl⟩ := I.loc
  have hself : m ar.arg = some (.ref e) := by
    obtain ⟨u, ru, lu⟩ := hl 0 ar.arg (.ref e) hN hσ (.inl hka)
    obtain rfl : u = Value.ref e := ru
    rcases lu with ⟨_, z⟩ | ⟨z, _⟩
    · exact z
    · exfalso
      have z' : F.scope.names.lookup ar.arg = some .cell ∨ F.scope.names.lookup ar.arg = some .free := z
      rcases z' with z' | z' <;> rw [hka] at z' <;> cases z'
  refine PySem.ks_wpAt_Expr_any (PySem.ks_wpAt_MethodCall (pl := pl) ?_ (hev _)) I.quiet hsw
  refine PySem.ks_wpAt_super_base (env := envF F f s0.heap.objs.size) hks hkc (by decide) rfl (KX _ _ lk) rfl hp rfl (KX _ _ hcode) rfl hvs hfile T.top ?_
  refine PySem.W.ks_loadName_global hk hks (loadGlobal_builtin (env := envF F f s0.heap.objs.size) (I.mod.glob.keeps I.bk) hmg (hb1.keeps I.bk) ((hb2 "super" (by decide)).trans (by first | rfl | kernel_rfl)) ⟨rfl, ?_⟩)
  refine wpAny_loadName_free hk hkc (show F.cl.lookup ("__class__" : Str) = some cc by rw [hcl]; rfl) ⟨_, KX _ _ hcell, rfl⟩ ?_
  refine wpAny_loadName_local hk hka hns hself ?_
  have sub1 : PySem.W.Looks (model P w) s.heap (isSubtype (.ref C) (.ref C)) true := PySem.W.looks_mroIn KX T.sub
  obtain ⟨hp1, g, dr, tk, os⟩ := s
  refine PySem.ks_wpAny_isType_cls (KX _ _ hC) rfl ⟨rfl, ?_⟩
  refine PySem.ks_wpAny_call_super (KX _ _ hC) rfl ho rfl (fun c z => by cases z) sub1 (fun h1 e1 kp1 => ?_)
  have KX1 : K.In h1 := fun b o z => kp1 b o (KX b o z)
  have ho1 := kp1 _ _ ho
  have T1 : PySem.W.Looks (model P w) h1 (typeOf (.ref e)) (.ref C) := (PySem.W.Looks.ld ho1).andThen .now
  have hI1 : PySem.W.Looks (model P w) h1 (isInstance (.ref e) (.type "ValueError")) true := T1.andThen (PySem.W.looks_subIn KX1 T.ve)
  have hm := T.up
  unfold PySem.W.ks_superIn at hm
  rw [hCc] at hm
  refine PySem.W.kxs_getMethod PySem.W.kxs_ValueError e1 (PySem.W.looks_opaque KX1 T.clean) (l₀ := .ref C :: bm) (fun A Q E s k q => wpAny_bind ((PySem.W.looks_clsIn KX1 hCc) A _ E s k (wpAny_pure q))) rfl KX1 hm hI1 (fun z => by
    subst z
    have y := KX _ _ hC
    rw [ho] at y
    cases y) (by decide) ?_
  have e2 : (h1.push (PySem.W.kxs_mw "ValueError.__init__" e)).get? h1.objs.size = some (PySem.W.kxs_mw "ValueError.__init__" e) := Heap.get?_push_size h1 rfl
  have kp2 : ∀ b o, h1.get? b = some o → (h1.push (PySem.W.kxs_mw "ValueError.__init__" e)).get? b = some o := fun b o z => Heap.get?_push_of_some _ z
  generalize h1.push (PySem.W.kxs_mw "ValueError.__init__" e) = h2 at e2 kp2
  generalize h1.objs.size = u at e2
  have kp : ∀ b o, hp1.get? b = some o → h2.get? b = some o := fun b o z => kp2 b o (kp1 b o z)
  refine PySem.W.kxs_callWith (i := "ValueError.__init__") (x := e) rfl ?_
  refine evalArgs_plain ?_
  refine spliced_cons (x := eval (.Constant (.str txt) kk p3) (envF F f s0.heap.objs.size)) (rest := []) (Calls.Constant_str (spliced_nil ⟨e2, ?_⟩))
  refine wpAny_call (codeAny_of_tree ?_)
  show wpAny _ _ (callAny (.ref u) ⟨[.str txt _], []⟩) _ _ _
  simp only [callAny]
  refine wpAny_bind (wpAny_load e2 ?_)
  simp only [PySem.W.kxs_mw, show (Value.type "method-wrapper" == Value.type "method" || Value.type "method-wrapper" == Value.type "builtin_function_or_method" || Value.type "method-wrapper" == Value.type "method-wrapper") = true by decide, if_true]
  refine PySem.W.KFB.if_so (by decide) ?_
  refine wpAny_bind (PySem.W.check_bound_init PySem.F.excBase_ValueError.toExcCallFacts (kp _ _ (KX _ _ hC)) (kp _ _ ho) rfl ?_)
  refine wpAny_bind (wpAny_pure (wpAny_pure ?_))
  refine ⟨plainId_quiet PySem.F.excBase_ValueError.init.plain _, codeAny_builtin PySem.F.excBase_ValueError.initEntry ?_⟩
  refine PySem.W.exc_init_tree (cls := .ref C) (t0 := t1) (dv := d) (c2 := .none) (c3 := .none) (b4 := .bool false) (kp _ _ ho) (show 1 ≤ sizeLine by decide) (fun h' k3' e3 _ => ?_)
  have J := I.write (t' := tk + 1 + 1) (x := e) (e := e) (o := exo e C d) (h' := h') (by rw [he]; exact True.intro) (.inl rfl) (fun b u hb z => k3' b u hb (kp b u z)) ⟨_, e3⟩ (exo_ok e3)
  have eu : upd H e (exo e C d) = H := by
    funext b
    by_cases hb : b = e
    · rw [hb, upd_same, he]
    · rw [upd_ne hb]
  rw [eu] at J
  exact ⟨σ, H, J, q⟩
/-- statements, one behind another -/
inductive PSl (X : Cx) : List Stmt → TS → Prop where
  | nil : PSl X [] tNext
  | cons {st : Stmt} {ss : List Stmt} {t u : TS} : PS X st t → PSl X ss u → PSl X (st :: ss) (tSeq t u)
theorem PSl.run {X : Cx} {ss : List Stmt} {t : TS} (h : PSl X ss t) : ∀ {c : Code} {tail : List Stmt} {s : Shared} {σ : L2.St} {H : Hp} {Nx : L2.St → Hp → Prop} {D : Ends}, Inv X [] σ H s → t { nx := Nx, rt := fun _ _ => False } σ H →
    (∀ s' σ' H', Inv X [] σ' H' s' → Nx σ' H' → PySem.wpAt (model X.prog X.w) X.A c (execs tail X.env) (SP X [] D) X.xe s') → PySem.wpAt (model X.prog X.w) X.A c (execs (ss ++ tail) X.env) (SP X [] D) X.xe s := by
  induction h with
  | nil => intro c tail s σ H Nx D I q k; exact k s σ H I q
  | @cons st ss t u hs _ ih =>
    intro c tail s σ H Nx D I q k
    refine PySem.ks_wpAt_execs_cons (wpAt_of_wpAny (thn (hs.run [] s σ H _ I q) fun f s' hf => ?_))
    cases f with
    | next =>
      obtain ⟨σ', H', I', q'⟩ := hf
      exact ih I' q' k
    | brk =>
      obtain ⟨_, _, _, q'⟩ := hf
      exact False.elim q'
    | cont =>
      obtain ⟨_, _, _, q'⟩ := hf
      exact False.elim q'
    | ret u =>
      obtain ⟨_, _, _, _, _, q'⟩ := hf
      exact False.elim q'
/-- THE RULE: such an __init__ by the statements ahead of the last one -/
theorem fn_init {C cc cda : Addr} {name qual : Str} {params : Arguments} {ss : List Stmt} {scope : Scope} {dV kV doc pm ct oc : Value} {an od : Option Addr} {osl : Array (Option Value)} {ps : List Str} {k : Nat} {sp : Sp} {ar : PySem.Arg} {p0 p1 p2 p3 p4 p5 : Pos} {txt : Str} {kk : Nat} {body : List Stmt}
    (hbd : body = ss ++ [.Expr (.Call (.Attribute (.Call (.Name "super" p0) [] [] p1) "__init__" p2) [.Constant (.str txt) kk p3] [] p4) p5])
    (lk : K.lookup f = some ⟨oc, od, .func (PySem.W.fnX name qual params body scope [(("__class__" : Str), cc)] dV kV doc pm an (.ref cda) ct), osl⟩) (hcd : PySem.W.codeIn K (.ref cda) qual = true)
    (S : NScope N ps ["__class__"] scope) (T : SupC P K C cc cda) (hmg : mg "super" = none) (hhead : (params.posonlyargs ++ params.args).head? = some ar) (hN : N[0]? = some ar.arg) (hka : scope.names.lookup ar.arg = some .local)
    (hks : scope.names.lookup ("super" : Str) = some .globalImplicit) (len : ∀ vs H Q E, sp vs H Q E → vs.length = ps.length) {pl : Sem Bool}
    (hev : ∀ env : PySem.Env, eval (.Call (.Attribute (.Call (.Name "super" p0) [] [] p1) "__init__" p2) [.Constant (.str txt) kk p3] [] p4) env = (do
      let ov ← attributeBase (.Call (.Name "super" p0) [] [] p1) "__init__" env (eval (.Call (.Name "super" p0) [] [] p1) env)
      standAt p2.atName
      let (f, first) ← holding [ov] (getMethod ov "__init__" pl)
      callWith p4 f first (backTo p4 (starEach [.Constant (.str txt) kk p3] env)) []))
    (hsw : ∀ L, swapsWith (.Call (.Attribute (.Call (.Name "super" p0) [] [] p1) "__init__" p2) [.Constant (.str txt) kk p3] [] p4) none p5.line (PySem.W.envX qual scope L f (.ref cda) [(("__class__" : Str), cc)]) = pure false)
    (hbody : ∀ (A : Around) (outer : List PySem.Env) (s : Shared) (H : Hp) (vs : List V) (Q : VK) (E : XK), sp vs H Q E →
      ∃ t, PSl (ncx CX P w K mg base N ⟨name, qual, params, body, scope, [(("__class__" : Str), cc)], cda⟩ f A outer s H E) ss t ∧
        t { nx := fun σ H' => ∃ e d, σ[0]? = some (some (.ref e)) ∧ H' e = some (exo e C d) ∧ Q .non H', rt := fun _ _ => False } (startF N vs [none]) H) :
    FnOk P w K mg base CX (k + 1) f (PySem.W.fnX name qual params body scope [(("__class__" : Str), cc)] dV kV doc pm an (.ref cda) ct) ps sp := by
  refine ⟨len, fun A outer s H args us vs Q E hr e0 hb r hsp => ?_⟩
  have hl := len _ _ _ _ hsp
  have KX : K.In s.heap := e0.mod.kin.keeps fun b o e => (e0.bs b o e).1
  have lim : s.heap.NoLimit := e0.mod.nolimit.keeps fun b o e => (e0.bs b o e).1
  obtain ⟨c1, c2, c3, hcell⟩ := T.cell
  obtain ⟨t, ht, hq⟩ := hbody A outer s H vs Q E hsp
  have CA : CellsAt (NF.cl ⟨name, qual, params, body, scope, [(("__class__" : Str), cc)], cda⟩) ["__class__"] [none] s.heap H := by
    have key : ∀ (y : Str) (c : Addr), List.lookup y [(("__class__" : Str), cc)] = some c → y = "__class__" ∧ c = cc := fun y c e => by
      have := PySem.mem_of_lookup e
      rw [List.mem_singleton] at this
      cases this
      exact ⟨rfl, rfl⟩
    have hc := e0.bs cc _ (e0.mod.kin cc _ hcell)
    refine ⟨rfl, fun y c e => ?_, fun x y c e1 e2 => ?_, fun i y hi => ?_⟩
    · obtain ⟨_, rfl⟩ := key y c e
      exact ⟨hc.2, _, _, hc.1, rfl⟩
    · rw [(key x c e1).1, (key y c e2).1]
    · match i, hi with
      | 0, hi =>
        cases hi
        exact ⟨cc, rfl, fun v z => by cases z⟩
      | i + 1, hi => cases hi
  refine codeAny_call_function hr.depth (KX _ _ lk) rfl S.co S.gen rfl (PySem.W.codeRec_of KX hcd) (hb _ _ _ _ ?_)
  refine wpAny_newFunctionEnv S.nocell (fun ⟨n, _⟩ hy => S.par n (List.of_mem_zip hy).1) (fun h₁ hns hsb => ⟨lim.fresh _ hsb, ?_⟩) S.kind
  have kp : ∀ b o, s.heap.get? b = some o → h₁.get? b = some o := fun b o e => hsb.extBut b o (Nat.ne_of_lt (Heap.lt_size e)) (Heap.get?_push_of_some _ e)
  have I : Inv (ncx CX P w K mg base N ⟨name, qual, params, body, scope, [(("__class__" : Str), cc)], cda⟩ f A outer s H E) [] (startF N vs [none]) H { s with heap := h₁, toks := s.toks + (ps.zip us).length } := inv_startN (F := ⟨name, qual, params, body, scope, [(("__class__" : Str), cc)], cda⟩) S hr.hd e0 hl r CA hns kp
  refine PySem.ks_codeAny_funcAt ?_
  have main := ht.run (c := .func body (envF ⟨name, qual, params, body, scope, [(("__class__" : Str), cc)], cda⟩ f s.heap.objs.size)) (tail := [.Expr (.Call (.Attribute (.Call (.Name "super" p0) [] [] p1) "__init__" p2) [.Constant (.str txt) kk p3] [] p4) p5]) (D := { nx := fun σ H' => Q .non H', rt := fun _ _ => False }) I hq fun s' σ' H' I' ⟨e, d, h1, h2, h3⟩ => ?_
  · rw [← hbd] at main
    refine PySem.ks_wpAt_mono main (fun fl s' hs => ?_) fun e s' hs => hs
    cases fl with
    | ret u =>
      obtain ⟨_, _, _, _, _, q⟩ := hs
      exact False.elim q
    | next =>
      obtain ⟨σ', H', J, q⟩ := hs
      exact ⟨.non, H', J.os, J.bare, J.base, J.hok, rfl, q⟩
    | brk =>
      obtain ⟨_, _, _, q⟩ := hs
      exact False.elim q
    | cont =>
      obtain ⟨_, _, _, q⟩ := hs
      exact False.elim q
  · refine PySem.ks_wpAt_execs_cons ?_
    refine PySem.ks_wpAt_mono (sup_run (F := ⟨name, qual, params, body, scope, [(("__class__" : Str), cc)], cda⟩) (D := { nx := fun σ H' => Q .non H', rt := fun _ _ => False }) T rfl S.kind hks (S.frk _ List.mem_cons_self) hmg lk hhead hka hN I' h1 h2 h3 hev (hsw _)) (fun fl s' hs => ?_) fun e s' hs => hs
    cases fl with
    | next => exact wpAt_of_wpAny (wpAny_execs_nil hs)
    | ret u => exact hs
    | brk => exact hs
    | cont => exact hs
end
end Lw
/-! Own exceptions over ValueError whose __init__ stores its parameters and ends with super().__init__('..'): what the head tells of them. -/
namespace Lw
open PySem PySem.Spec PySem.Calls PyProof.Rows L2 NdefX
/-! ### facts of the written part -/
def inC (K : PySem.W.Frag) (x : Str) : Addr := He.ga K x
def inI (K : PySem.W.Frag) (x : Str) : Addr := He.ma K (inC K x) "__init__"
abbrev InW : Type := Option (Str × Str × Arguments × FuncBody × Scope × Addr × List Str × Addr)
def inW (K : PySem.W.Frag) (x : Str) : InW := match K.lookup (inI K x) with
  | some ⟨_, _, .func fd, _⟩ => some (fd.name, fd.qualname, fd.params, fd.body, fd.scope, fd.globals, fd.closure.map (·.1), fd.builtins)
  | _ => none
structure XD where
  x : Str
  st : Stmt
def XD.val (d : XD) : InW := some ("__init__", d.x ++ ".__init__", defArgs d.st, .stmts (defBody d.st), defScope d.st, mainGlobals, ["__class__"], builtinsNs)
def clsB (K : PySem.W.Frag) (C : Addr) : Bool := match K.lookup C with
  | some ⟨.type t, _, .cls cd, sl⟩ => t == "type" && (match cd.mro, sl.toList with
    | .ref C' :: bm, [_, _, _, _, some (.builtin n), _] => C' == C && n == "ValueError.__new__" && !cd.hasDel && cd.hasDict && PySem.HandSPX.refsVE bm
    | _, _ => false)
  | _ => false
def celB (K : PySem.W.Frag) (cc C : Addr) : Bool := match K.lookup cc with
  | some ⟨_, _, .cell (some (.ref D)), _⟩ => D == C
  | _ => false
def filB (K : PySem.W.Frag) (cda : Addr) (file : Str) : Bool := match K.lookup cda with
  | some ⟨_, _, .fields vs, _⟩ => (match (vs[2]? : Option Value) with
    | some (Value.str f _) => file == f
    | _ => false)
  | _ => false
def fnB (K : PySem.W.Frag) (x : Str) (file : Str) : Bool := match K.lookup (inI K x) with
  | some ⟨_, _, .func fd, _⟩ => (match fd.closure, fd.code, fd.defaults with
    | [(_, cc)], .ref cda, .none => celB K cc (inC K x) && PySem.W.codeIn K (.ref cda) (x ++ ".__init__") && filB K cda file
    | _, _, _ => false)
  | _ => false
def xdB (K : PySem.W.Frag) (x : Str) (fs : List Str) (file : Str) : Bool :=
  decide (PySem.W.nsIn K mainGlobals x = some (some (.ref (inC K x)))) && clsB K (inC K x) && decide (PySem.W.findIn K (.ref (inC K x)) "__setattr__" = some (some (.builtin "object.__setattr__"))) && decide (PySem.W.subIn K (.ref (inC K x)) (.type "BaseException") = some true) &&
  decide (PySem.W.typeIn K (.ref (inC K x)) = some (.type "type")) && PySem.W.keepIn K (.ref (inC K x)) && decide (PySem.W.mroIn K (inC K x) (.ref (inC K x)) = some true) && decide (PySem.W.ks_superIn K (inC K x) (inC K x) "__init__" = some (some (.builtin "ValueError.__init__"))) &&
  decide (PySem.W.nsIn K cStatics "thirdparty.any" = some none) && decide (PySem.W.subIn K (.ref (inC K x)) (.type "ValueError") = some true) && decide (PySem.W.nsIn K mainGlobals "super" = some none) && decide (PySem.W.findIn K (.ref (inC K x)) "__init__" = some (some (.ref (inI K x)))) &&
  decide (PySem.W.typeIn K (.ref (inI K x)) = some (.type "function")) && xfB K (inC K x) && decide (PySem.W.exmOne K (.ref (inC K x)) (.ref (inC K x)) = some true) && fs.all (fun f => decide (PySem.W.findIn K (.ref (inC K x)) f = some none)) && fnB K x file
theorem clsB_ok {K : PySem.W.Frag} {C : Addr} (h : clsB K C = true) : ∃ nm q N bs bm sn sub ab col dd k0 k1 k2 k3 k5, K.lookup C = some (excClassObj nm q C N bs bm true sn sub ab col dd k0 k1 k2 k3 k5 "ValueError.__new__") ∧ PySem.HandSPX.refsVE bm = true := by
  unfold clsB at h
  split at h
  · rename_i t dd cd sl ho
    obtain ⟨ht, h⟩ := Bool.and_eq_true_iff.mp h
    split at h
    · rename_i C' bm k0 k1 k2 k3 n k5 hm hs
      simp only [Bool.and_eq_true, beq_iff_eq, Bool.not_eq_true'] at h
      obtain ⟨⟨⟨⟨rfl, rfl⟩, hdel⟩, hdic⟩, ht2⟩ := h
      obtain ⟨nm, bs, mro, ns, qn, hd, sn, sub, ab, col, del⟩ := cd
      dsimp only at hm hdel hdic
      subst hm hdel hdic
      have hsl : sl = #[k0, k1, k2, k3, some (.builtin "ValueError.__new__"), k5] := by
        obtain ⟨l⟩ := sl
        simp only at hs
        rw [hs]
      subst hsl
      rw [beq_iff_eq] at ht
      subst ht
      exact ⟨nm, qn, ns, bs, bm, sn, sub, ab, col, dd, k0, k1, k2, k3, k5, ho, ht2⟩
    · cases h
  · cases h
theorem celB_ok {K : PySem.W.Frag} {cc C : Addr} (h : celB K cc C = true) : ∃ c d s, K.lookup cc = some ⟨c, d, .cell (some (.ref C)), s⟩ := by
  unfold celB at h
  split at h
  · rename_i a b D s ho
    rw [beq_iff_eq] at h
    subst h
    exact ⟨a, b, s, ho⟩
  · cases h
theorem filB_ok {K : PySem.W.Frag} {cda : Addr} {fl : Str} (h : filB K cda fl = true) : ∃ c d vs s file tf, K.lookup cda = some ⟨c, d, .fields vs, s⟩ ∧ vs[2]? = some (.str file tf) ∧ (fl == file) = true := by
  unfold filB at h
  split at h
  · rename_i a b vs s ho
    split at h
    · rename_i f tf hv
      exact ⟨a, b, vs, s, f, tf, ho, hv, h⟩
    · cases h
  · cases h
/-! ### the __init__ -/
/-- self.f = f, one behind another, then super().__init__('..') -/
def spIni (C : Addr) (fs : List Str) : Sp := fun vs H Q _ => ∃ (e : Addr) (ys : List V), vs = .ref e :: ys ∧ ys.length = fs.length ∧ H e = some (exo e C none) ∧ ∀ dx, H dx = none → dx ≠ e → Q .non (upd (upd H dx (exd dx (fs.zip ys).reverse)) e (exo e C (some dx)))
theorem upd_comm {H : Hp} {a b : Addr} {o u : HO} (h : a ≠ b) : upd (upd H a o) b u = upd (upd H b u) a o := by
  funext c
  by_cases hb : c = b
  · subst hb; rw [upd_same, upd_ne (Ne.symm h), upd_same]
  · rw [upd_ne hb]
    by_cases ha : c = a
    · subst ha; rw [upd_same, upd_same]
    · rw [upd_ne ha, upd_ne ha, upd_ne hb]
section
variable {CX : CXT} {P : Program} {w : World} {K : PySem.W.Frag} {mg : Str → Option Value} {base : Heap} {N : List Str} {F : NF} {f : Addr} {A : Around} {outer : List PySem.Env} {s0 : Shared} {H0 : Hp} {E0 : XK}
/-- what the text of such an __init__ must be: fs its fields, each stored from the parameter of its name -/
structure IniTxt (fs : List Str) (name qual : Str) (params : Arguments) (body : List Stmt) (scope : Scope) : Prop where
  ok : ∀ {P : Program} {w : World} {K : PySem.W.Frag} {mg : Str → Option Value} {base : Heap} {C cc cda f : Addr} {dV kV doc pm ct oc : Value} {an od : Option Addr} {osl : Array (Option Value)}, SupC P K C cc cda → mg "super" = none → (∀ x ∈ fs, PySem.W.findIn K (.ref C) x = some none) →
    K.lookup f = some ⟨oc, od, .func (PySem.W.fnX name qual params body scope [(("__class__" : Str), cc)] dV kV doc pm an (.ref cda) ct), osl⟩ → PySem.W.codeIn K (.ref cda) qual = true →
    FnOk P w K mg base CX0 1 f (PySem.W.fnX name qual params body scope [(("__class__" : Str), cc)] dV kV doc pm an (.ref cda) ct) (("self" : Str) :: fs) (spIni C fs)
  bind : ∀ (kV doc pm : Value) (an : Option Addr) (cdv ct : Value) (cl : List (Str × Addr)) (us : List Value), us.length = fs.length + 1 → bindArgs (PySem.W.fnX name qual params body scope cl .none kV doc pm an cdv ct) ⟨us, []⟩ = pure ((("self" : Str) :: fs).zip us)
/-- one field: the reading -/
theorem ini1_read {C : Addr} {f1 : Str} {vs : List V} {H : Hp} {Q : VK} {E : XK} (T : OexC K C) (h1 : PySem.W.findIn K (.ref C) f1 = some none) (h : spIni C [f1] vs H Q E) :
    tSeq (tOst K f1 (tVar 0) (tVar 1)) tNext { nx := fun σ H' => ∃ e d, σ[0]? = some (some (.ref e)) ∧ H' e = some (exo e C d) ∧ Q .non H', rt := fun _ _ => False } (startF ["self", f1, "__class__"] vs [none]) H := by
  obtain ⟨e, ys, rfl, hl, he, q⟩ := h
  match ys, hl with
  | [y], _ => exact ⟨y, rfl, .ref e, rfl, e, C, rfl, T, h1, .inl ⟨he, fun dx n ne => ⟨e, some dx, rfl, upd_same, q dx n ne⟩⟩⟩
theorem ini2_read {C : Addr} {f1 f2 : Str} {vs : List V} {H : Hp} {Q : VK} {E : XK} (T : OexC K C) (h1 : PySem.W.findIn K (.ref C) f1 = some none) (h2 : PySem.W.findIn K (.ref C) f2 = some none) (h : spIni C [f1, f2] vs H Q E) :
    tSeq (tOst K f1 (tVar 0) (tVar 1)) (tSeq (tOst K f2 (tVar 0) (tVar 2)) tNext) { nx := fun σ H' => ∃ e d, σ[0]? = some (some (.ref e)) ∧ H' e = some (exo e C d) ∧ Q .non H', rt := fun _ _ => False } (startF ["self", f1, f2, "__class__"] vs [none]) H := by
  obtain ⟨e, ys, rfl, hl, he, q⟩ := h
  match ys, hl with
  | [y, z], _ =>
    refine ⟨y, rfl, .ref e, rfl, e, C, rfl, T, h1, .inl ⟨he, fun dx n ne => ?_⟩⟩
    refine ⟨z, rfl, .ref e, rfl, e, C, rfl, T, h2, .inr ⟨dx, [(f1, y)], upd_same, ?_, (by simp), e, some dx, rfl, ?_, ?_⟩⟩
    · rw [upd_ne ne, upd_same]
    · rw [upd_ne (Ne.symm ne), upd_same]
    · have := q dx n ne
      rw [upd_comm (Ne.symm ne), upd_upd]
      exact this
end
/-- all that is used of such a class -/
structure ExcD (P : Program) (w : World) (K : PySem.W.Frag) (mg : Str → Option Value) (base : Heap) (x : Str) (fs : List Str) : Prop where
  gC : mg x = some (.ref (inC K x))
  kC : PySem.W.keepIn K (.ref (inC K x)) = true
  T : OexC K (inC K x)
  fl : ∀ f ∈ fs, PySem.W.findIn K (.ref (inC K x)) f = some none
  xf : XfC K (inC K x)
  te : PySem.W.exmOne K (.ref (inC K x)) (.ref (inC K x)) = some true
  ini : ∃ fd, PySem.W.findIn K (.ref (inC K x)) "__init__" = some (some (.ref (inI K x))) ∧ PySem.W.typeIn K (.ref (inI K x)) = some (.type "function") ∧ Binds K fd (("self" : Str) :: fs) [] ∧ FnOk P w K mg base CX0 1 (inI K x) fd (("self" : Str) :: fs) (spIni (inC K x) fs)
theorem excD_of {P : Program} {w : World} {K : PySem.W.Frag} {mg : Str → Option Value} {base : Heap} {x : Str} {fs : List Str} {st : Stmt} (glo : ∀ x v, PySem.W.nsIn K mainGlobals x = some (some v) → mg x = some v) (gloN : ∀ x, PySem.W.nsIn K mainGlobals x = some none → mg x = none)
    (hb : xdB K x fs P.main.file = true) (hw : inW K x = XD.val ⟨x, st⟩) (ht : IniTxt fs "__init__" (x ++ ".__init__") (defArgs st) (defBody st) (defScope st)) (htop : (P.main.scope.names.lookup ("super" : Str)).isSome = false) : ExcD P w K mg base x fs := by
  unfold xdB at hb
  simp only [Bool.and_eq_true, decide_eq_true_eq] at hb
  obtain ⟨⟨⟨⟨⟨⟨⟨⟨⟨⟨⟨⟨⟨⟨⟨⟨b1, b2⟩, b3⟩, b4⟩, b5⟩, b6⟩, b7⟩, b8⟩, b9⟩, b10⟩, b11⟩, b12⟩, b13⟩, b14⟩, b15⟩, b16⟩, b17⟩ := hb
  have T : OexC K (inC K x) := ⟨clsB_ok b2, b3, b4, b5, b6⟩
  have hfl : ∀ f ∈ fs, PySem.W.findIn K (.ref (inC K x)) f = some none := fun f hf => of_decide_eq_true (List.all_eq_true.mp b16 f hf)
  refine ⟨glo _ _ b1, b6, T, hfl, xfB_ok b14, b15, ?_⟩
  unfold fnB at b17
  unfold inW at hw
  cases q : K.lookup (inI K x) with
  | none => rw [q] at b17; cases b17
  | some o =>
    obtain ⟨oc, od, dt, osl⟩ := o
    rw [q] at b17 hw
    cases dt with
    | func fd =>
      obtain ⟨n1, n2, n3, n4, n5, n6, n7, n8, n9, n10, n11, n12, n13, n14, n15⟩ := fd
      have e2 : (some (n1, n2, n3, n4, n5, n6, n7.map (·.1), n15) : InW) = some (("__init__" : Str), (x ++ ".__init__" : Str), defArgs st, FuncBody.stmts (defBody st), defScope st, mainGlobals, [("__class__" : Str)], builtinsNs) := hw
      simp only [Option.some.injEq, Prod.mk.injEq] at e2
      obtain ⟨h1, h2, h3, h4, h5, h6, h7, h8⟩ := e2
      subst h1 h2 h3 h4 h5 h6 h8
      dsimp only at b17
      split at b17
      · rename_i cn cc cda
        obtain rfl : cn = ("__class__" : Str) := by simpa using h7
        simp only [Bool.and_eq_true] at b17
        obtain ⟨⟨c1, c2⟩, c3⟩ := b17
        have S : SupC P K (inC K x) cc cda := ⟨T, celB_ok c1, b7, b8, b9, b10, filB_ok c3, htop⟩
        exact ⟨_, b12, b13, Binds.all fun us hl => ht.bind _ _ _ _ _ _ _ us (by rw [hl]; rfl), ht.ok S (gloN _ b11) hfl q c2⟩
      · cases b17
    | _ => cases b17
end Lw
/-! The head's Hook with own exceptions. -/
namespace Lw
open PySem PySem.Spec PyProof.Rows L2
def asY (g : Addr → Option Obj) : Nat → List Addr
  | 0 => [mainGlobals, cStatics]
  | n + 1 => He.growD g (asY g n)
abbrev AlY : Type := He.AlD × Bool × List InW
def obsY (n : Nat) (fa : List He.Fa) (fn : List He.DefD) (ex : PySem.W.Frag → Bool) (xs : List XD) (g : Addr → Option Obj) : AlY :=
  (He.obsD fa fn (He.frG g (asY g n)), ex (He.frG g (asY g n)), xs.map fun d => inW (He.frG g (asY g n)) d.x)
def valY (fn : List He.DefD) (xs : List XD) : AlY := (He.valD fn, true, xs.map XD.val)
/-- what is told: the facts, the defs, the Bool ex, the exceptions' own __init__s -/
structure SaysY (fa : List He.Fa) (fn : List He.DefD) (ex : PySem.W.Frag → Bool) (xs : List XD) (K : PySem.W.Frag) : Prop where
  d : He.SaysD fa fn K
  more : ex K = true
  x : xs.map (fun d => inW K d.x) = xs.map XD.val
def hookY (n : Nat) (fa : List He.Fa) (fn : List He.DefD) (ex : PySem.W.Frag → Bool) (xs : List XD) : PySem.W.Hook where
  α := AlY
  obs := fun s => obsY n fa fn ex xs s.heap.get?
  val := fun _ => valY fn xs
  says := fun _ h => ∃ K : PySem.W.Frag, K.In h ∧ SaysY fa fn ex xs K
  of := fun _ s e => ⟨_, He.frG_in, ⟨congrArg (fun z : AlY => z.1) e, congrArg (fun z : AlY => z.2.1) e, congrArg (fun z : AlY => z.2.2) e⟩⟩
  keeps := fun _ _ _ ⟨K, hK, c⟩ k => ⟨K, PySem.W.Frag.In.keeps hK k, c⟩
theorem obsY_eq {n : Nat} {fa : List He.Fa} {fn : List He.DefD} {ex : PySem.W.Frag → Bool} {xs : List XD} {g : Addr → Option Obj} {s : Shared} (h : ∀ a, g a = s.heap.get? a) : obsY n fa fn ex xs g = (hookY n fa fn ex xs).obs s := by
  have e : g = s.heap.get? := funext h
  rw [e] <;> rfl
/-- the written part's facts behind its top -/
structure Fy (fa : List He.Fa) (fn : List He.DefD) (ex : PySem.W.Frag → Bool) (xs : List XD) (K : PySem.W.Frag) (mg : Str → Option Value) : Prop where
  f : Fx fa fn ex K mg
  x : xs.map (fun d => inW K d.x) = xs.map XD.val
  int_ : ∀ (i : Nat) (x : Str) (n : Int), fa[i]? = some (He.Fa.int x n) → ∃ t, mg x = some (.int n t)
  str_ : ∀ (i : Nat) (x z : Str), fa[i]? = some (He.Fa.str x z) → ∃ t, mg x = some (.str z t)
theorem Fy.of {fa : List He.Fa} {fn : List He.DefD} {ex : PySem.W.Frag → Bool} {xs : List XD} {K : PySem.W.Frag} {mg : Str → Option Value} {h : Heap} (X : K.In h) (G : h.Ns mainGlobals mg) (c : SaysY fa fn ex xs K) : Fy fa fn ex xs K mg :=
  ⟨⟨c.d, c.more, fun _ _ e => PySem.W.mg_of X G e, fun _ e => PySem.W.mg_none_of X G e⟩, c.x, fun i x n e => He.int_ok X G (c.d.fact i e), fun i x z e => He.str_ok X G (c.d.fact i e)⟩
section
variable {fa : List He.Fa} {fn : List He.DefD} {ex : PySem.W.Frag → Bool} {xs : List XD} {K : PySem.W.Frag} {mg : Str → Option Value} {P : Program} {w : World} {base : Heap}
theorem Fy.free (E : Fy fa fn ex xs K mg) (i : Nat) {x : Str} (h : fa[i]? = some (.free x) := by rfl) : mg x = none := E.f.free i h
theorem Fy.gref (E : Fy fa fn ex xs K mg) (i : Nat) {x : Str} (h : fa[i]? = some (.glo x) := by rfl) : mg x = some (.ref (He.ga K x)) := E.f.gref i h
theorem Fy.int (E : Fy fa fn ex xs K mg) (i : Nat) {x : Str} {n : Int} (h : fa[i]? = some (He.Fa.int x n) := by rfl) : ∃ t, mg x = some (.int n t) := E.int_ i x n h
theorem Fy.str (E : Fy fa fn ex xs K mg) (i : Nat) {x z : Str} (h : fa[i]? = some (He.Fa.str x z) := by rfl) : ∃ t, mg x = some (.str z t) := E.str_ i x z h
theorem Fy.cal (E : Fy fa fn ex xs K mg) (i j : Nat) {x : Str} {st : Stmt} {ps : List Str} {k : Nat} {sp : Sp} (hi : fn[i]? = some ⟨(x, none), x, x, defArgs st, defBody st, defScope st, [], []⟩) (hj : fa[j]? = some (.glo x))
    (hbi : ∀ (kV doc pm : Value) (an : Option Addr) (cdv ct : Value) (us : List Value), us.length = ps.length → bindArgs (PySem.W.fnOf x x (defArgs st) (defBody st) (defScope st) .none kV doc pm an cdv ct) ⟨us, []⟩ = pure (ps.zip us))
    (hf : ∀ f fd, FunD K x x (defArgs st) (defBody st) (defScope st) [] [] f fd → FnOk P w K mg base CX0 k f fd ps sp) : Cal P w K mg base x k ps sp := E.f.cal i j hi hj hbi hf
theorem Fy.ini (E : Fy fa fn ex xs K mg) (i : Nat) {d : XD} (h : xs[i]? = some d := by rfl) : inW K d.x = d.val := by
  have e := congrArg (fun l => l[i]?) E.x
  simp only [List.getElem?_map, h, Option.map_some, Option.some.injEq] at e
  exact e
end
end Lw
namespace K14
open PySem PySem.Spec PyProof.Rows L2 Lw NdefX
def topS (i : Nat) : Stmt := PySem.Challenge.pw_planyard_k14_closing_whole.main.body.getD i (.Pass ⟨0, 0, 0, 0⟩)
def clsBody : Stmt → List Stmt
  | .ClassDef (body := b) .. => b
  | _ => []
def clsS (i j : Nat) : Stmt := (clsBody (topS i)).getD j (.Pass ⟨0, 0, 0, 0⟩)
def dd (x : Str) (i : Nat) : He.DefD := ⟨(x, none), x, x, defArgs (topS i), defBody (topS i), defScope (topS i), [], []⟩
def fn : List He.DefD := [dd "below" 5, dd "count_settings" 6, dd "check_many" 7, dd "first_setting" 8, dd "next_setting" 9, dd "all_settings" 10, dd "lowered" 11, dd "raised" 12, dd "closed_up" 13, dd "closed_down" 14, dd "keepers_of" 15, dd "breakers_of" 16, dd "uncovered" 17, dd "_law_bag" 19, dd "_law_mixed" 20, dd "_law_take" 21, dd "_law_same" 22, dd "_law_low" 23, dd "_law_above_one" 24, dd "_law_below_one" 25, dd "_law_least" 26, dd "_law_greatest" 27, dd "_law_settings" 28, dd "_law_tops" 29, dd "_law_told" 30, dd "_law_below" 31, dd "_law_closing" 32, dd "_law_uncovered" 33, dd "_law_part" 34, dd "_law_refusals" 35, dd "_law_step" 36, dd "_law_within" 37, dd "_law_beyond" 38, dd "law" 39]
def fa : List He.Fa := ([.glo "PlanError", .glo "TooLarge", .glo "below", .glo "count_settings", .glo "check_many", .glo "first_setting", .glo "next_setting", .glo "all_settings", .glo "lowered", .glo "raised", .glo "closed_up", .glo "closed_down", .glo "keepers_of", .glo "breakers_of", .glo "uncovered", .glo "_law_bag", .glo "_law_mixed", .glo "_law_take", .glo "_law_same", .glo "_law_low", .glo "_law_above_one", .glo "_law_below_one", .glo "_law_least", .glo "_law_greatest", .glo "_law_settings", .glo "_law_tops", .glo "_law_told", .glo "_law_below", .glo "_law_closing", .glo "_law_uncovered"] : List He.Fa) ++ ([.glo "_law_part", .glo "_law_refusals", .glo "_law_step", .glo "_law_within", .glo "_law_beyond", .glo "law", .int "MOST_SETTINGS" 4096, .free "ValueError", .free "zip", .free "reversed", .free "tuple", .free "isinstance", .free "str", .free "range", .free "sorted", .free "list", .free "len", .free "any", .free "int", .free "min", .free "all", .free "abs", .free "bool", .free "super"] : List He.Fa)
def names : List Str := (["PlanError", "TooLarge", "MOST_SETTINGS", "below", "count_settings", "check_many", "first_setting", "next_setting", "all_settings", "lowered", "raised", "closed_up", "closed_down", "keepers_of", "breakers_of", "uncovered", "_law_bag", "_law_mixed", "_law_take", "_law_same"] : List Str) ++ (["_law_low", "_law_above_one", "_law_below_one", "_law_least", "_law_greatest", "_law_settings", "_law_tops", "_law_told", "_law_below", "_law_closing", "_law_uncovered", "_law_part", "_law_refusals", "_law_step", "_law_within", "_law_beyond"] : List Str)
def xs : List XD := [⟨"TooLarge", clsS 2 0⟩]
def ex (K : PySem.W.Frag) : Bool := xdB K "TooLarge" ["what", "limit"] PySem.Challenge.pw_planyard_k14_closing_whole.main.file
abbrev FX (K : PySem.W.Frag) (mg : Str → Option Value) : Prop := Lw.Fy fa fn ex xs K mg
theorem ini_TooLarge : IniTxt ["what", "limit"] "__init__" (("TooLarge" : Str) ++ ".__init__") (defArgs (clsS 2 0)) (defBody (clsS 2 0)) (defScope (clsS 2 0)) where
  ok := fun T hs hf lk hcd => fn_init (N := ["self", "what", "limit", "__class__"]) (ss := (defBody (clsS 2 0)).take 2) rfl lk hcd (nscope_by (by decide +kernel)) T hs rfl rfl rfl rfl (fun vs H Q E h => by
      obtain ⟨e, ys, rfl, hl, _⟩ := h
      show ys.length + 1 = _
      rw [hl]; rfl) (fun _ => rfl) (fun _ => rfl) (fun A outer s H vs Q E h => ⟨_, PSl.cons (ps_ost (pv 0) (pv 1)) (PSl.cons (ps_ost (pv 0) (pv 2)) PSl.nil), ini2_read T.cls (hf _ (by simp)) (hf _ (by simp)) h⟩)
  bind := fun _ _ _ _ _ _ _ us hl => match us, hl with | [_, _, _], _ => rfl
end K14
/-! An own exception made where nothing is handled: its context is None. -/
namespace Lw
open PySem PySem.Spec PyProof.Rows L2
section
variable {X : Cx} {e : Expr} {es : List Expr} {ta : TA} {p pos : Pos}
theorem pmk_oexN {CXo : CXT} {x : Str} {C fI : Addr} {k : Nat} {fd : FuncData} {ps : List Str} {sp : Sp} (T : OexC X.K C) (iC : PySem.W.findIn X.K (.ref C) "__init__" = some (some (.ref fI))) (tI : PySem.W.typeIn X.K (.ref fI) = some (.type "function"))
    (F1 : FnOk X.prog X.w X.K X.mg X.base CXo k fI fd ps sp) (hr : Room (k + 1) X.A) (hb : Binds X.K fd ps []) (hx : Passes CXo X (fun _ _ _ => False)) (hg : Gl X x) (hm : X.mg x = some (.ref C)) (ha : PA X (e :: es) ta) (hdb : (x == ("__debug__" : Str)) = false := by decide)
    (he : starEach (e :: es) X.env = (false, eval e X.env) :: starEach es X.env := by rfl) (hpl : (backTo pos (starEach es X.env)).any (·.1) = false := by rfl) : L2N.PMk X (.Call (.Name x p) (e :: es) [] pos) (tMkO C sp [] ta) := by
  intro pins0 s0 σ0 H0 Q0 I0 h0
  obtain ⟨nm, qn, N0, bs0, bm0, sn0, sub0, ab0, col0, dd0, k0, k1, k2, k3, k5, hCl, hrefs⟩ := T.cls
  refine wpAny_Call_Name_kw (ld_glob I0 hg hm ?_ hdb)
  refine PySem.W.callWith_K (h₀ := X.base) I0.ok.mod.kin T.kC (thn (ha.run pos pins0 s0 σ0 H0 _ I0 h0) fun us s1 ⟨vs, H1, I1, rv, hsm, q1⟩ => ⟨I1.kIn, ?_⟩) he hpl
  show wpAny _ _ (call (.ref C) us) _ _ _
  obtain ⟨h1, gn, dr, tk, ost⟩ := s1
  have le1 : h1.objs.size ≤ h1.objs.size + 1 := Nat.le_succ _
  have fr : H1 (h1.objs.size + 1) = none := I1.hok.fresh le1
  have hq := q1 (h1.objs.size + 1) fr
  rw [List.append_nil] at hq
  have kp : ∀ b o, h1.get? b = some o → ((h1.push (PySem.W.kdv_tup us)).push (PySem.HandSPX.excO C h1.objs.size)).get? b = some o := fun b o z => Heap.get?_push_of_some _ (Heap.get?_push_of_some _ z)
  have here : ((h1.push (PySem.W.kdv_tup us)).push (PySem.HandSPX.excO C h1.objs.size)).get? (h1.objs.size + 1) = some (PySem.HandSPX.excO C h1.objs.size) := by heap_get
  have J2 : Inv X pins0 σ0 (upd H1 (h1.objs.size + 1) (exo (h1.objs.size + 1) C none)) ⟨(h1.push (PySem.W.kdv_tup us)).push (PySem.HandSPX.excO C h1.objs.size), gn, dr, tk, ost⟩ :=
    I1.laid (t' := tk) (a := h1.objs.size + 1) (o := exo (h1.objs.size + 1) C none) (h' := (h1.push (PySem.W.kdv_tup us)).push (PySem.HandSPX.excO C h1.objs.size)) kp le1 (exo_ok here)
  have rv2 : Vals (V.ref (h1.objs.size + 1) :: vs) (Value.ref (h1.objs.size + 1) :: us) := .cons rfl rv
  have len2 : (Value.ref (h1.objs.size + 1) :: us).length = ps.length := by
    rw [← rv2.length, F1.len _ _ _ _ hq]
  have fits : us.length ≤ sizeLine := by
    have := Paired.length rv
    rw [sizeLine_eq]
    omega
  have bd := hb _ (Value.ref (h1.objs.size + 1) :: us) J2.kIn (by rw [List.append_nil]; exact len2)
  rw [List.append_nil] at bd
  refine wpAny_call (PySem.HandSPX.call_own F.excBase_ValueError (fun Y => PySem.HandSPX.refsVE_contains Y bm0 hrefs) (I1.kIn _ _ hCl) (PySem.W.looks_findIn I1.kIn iC) (fun self => PySem.W.bind_fn I1.kIn self tI) fits
    (codeAny_mono (F1.run _ X.stack _ _ ⟨Value.ref (h1.objs.size + 1) :: us, []⟩ (Value.ref (h1.objs.size + 1) :: us) _ _ (fun _ _ _ => False) (hr.make C us []) (J2.env0.make C us []) bd rv2 hq) fun r s2 hq2 => ?_))
  cases r with
  | error er => exact hx pins0 σ0 _ _ er s2 J2 hq2
  | ok fl =>
    cases fl with
    | ret u =>
      obtain ⟨v2, H2, os2, bare2, un2, hok2, ru, ev2, d2, fs2, ea2, ed2, hd2, qq⟩ := hq2
      subst ev2
      obtain ⟨h2, gn2, dr2, tk2, ost2⟩ := s2
      obtain ⟨t0, G, J, kG, ge, hoe, na⟩ := mk_end0 (d2 := dr2) (t2 := tk2) I1 le1 kp un2 hok2 os2 bare2 ea2 ed2 hd2
      exact ⟨ru, h1.objs.size + 1, _, _, ⟨G, gn2, dr2, tk2, ost2⟩, _, .ref C, some d2, rfl, J, kG, ge, hoe, ⟨rfl, rfl, fun ws hw => by cases hw; rfl⟩, rfl, rfl, na, rfl, bare2, raises_own T.exC T.tyC, qq⟩
    | next => exact False.elim hq2
    | brk => exact False.elim hq2
    | cont => exact False.elim hq2
end
end Lw
/-! Rules that the modules lack: tuple * int with any small count, math.factorial, o[i] read for an augmented store. -/
namespace Lw
open PySem PySem.Spec PyProof.Rows L2
theorem tm_one (l : Addr) (items : Array Value) (n : Nat) (dd : Option Addr) (sl : Array (Option Value)) (u : Tok) :
    Meets (Builtin.«tuple.__mul__» ⟨[.ref l, .int 1 u], []⟩) (fun _ R s => s.heap.get? l = some { cls := .type "tuple", dict := dd, data := .seq items n, slots := sl } ∧ R (.ok (.ret (Value.ref l))) s) :=
  .of_wp fun prog w A R s h => by
    obtain ⟨hp, g, d, tk, os⟩ := s
    obtain ⟨hl, h⟩ := h
    have f1 := AutoSeq1.idx_int
    have c0 : (decide ((1 : Int) < -(2 ^ 63)) || decide ((1 : Int) ≥ 2 ^ 63)) = false := by decide
    have c1 : (items.isEmpty || (1 : Int) == 1) = true := by simp
    wp_walk using wpAny_loadPart' hl
    repeat (first
      | (refine wpAny_ite_false (decide_eq_false (by rw [c0]; exact Bool.false_ne_true)) ?_; wp_walk using wpAny_loadPart' hl)
      | (refine wpAny_ite_true (decide_eq_true (by rw [c1])) ?_; wp_walk using wpAny_loadPart' hl))
    exact ⟨_, rfl, h⟩
theorem tm_zero (l : Addr) (items : Array Value) (n : Nat) (dd : Option Addr) (sl : Array (Option Value)) (x : Int) (u : Tok) (c0 : (decide (x < -(2 ^ 63)) || decide (x ≥ 2 ^ 63)) = false) (c1 : (items.isEmpty || x == 1) = false) (c2 : (decide (x ≤ 0) || items.isEmpty) = true) :
    Meets (Builtin.«tuple.__mul__» ⟨[.ref l, .int x u], []⟩) (fun _ R s => s.heap.get? l = some { cls := .type "tuple", dict := dd, data := .seq items n, slots := sl } ∧
      R (.ok (.ret (Value.ref s.heap.objs.size))) { s with heap := s.heap.push { cls := Value.type "tuple", data := Data.seq #[] }, toks := s.toks }) :=
  .of_wp fun prog w A R s h => by
    obtain ⟨hp, g, d, tk, os⟩ := s
    obtain ⟨hl, h⟩ := h
    have f1 := AutoSeq1.idx_int
    wp_walk using wpAny_loadPart' hl
    repeat (first
      | (refine wpAny_ite_false (decide_eq_false (by rw [c0]; exact Bool.false_ne_true)) ?_; wp_walk using wpAny_loadPart' hl)
      | (refine wpAny_ite_false (decide_eq_false (by rw [c1]; exact Bool.false_ne_true)) ?_; wp_walk using wpAny_loadPart' hl)
      | (refine wpAny_ite_true (decide_eq_true (by rw [c2])) ?_; wp_walk using wpAny_loadPart' hl))
    exact ⟨_, rfl, h⟩
section
variable {X : Cx}
/-- t * k, k any small number -/
def rRepA (K : PySem.W.Frag) : R2 := fun x y H Q => ∃ l k xs, x = .ref l ∧ y = .int k ∧ SqT K H l xs ∧ xs ≠ [] ∧ -1000 ≤ k ∧ k ≤ 1000 ∧ xs.length ≤ 1000 ∧ (k = 1 → Q (.ref l) H) ∧ (k ≠ 1 → ∀ p, H p = none → Q (.ref p) (upd H p (.tup (List.replicate k.toNat xs).flatten)))
theorem op_repTA : OpR X (binaryOp .Mult) (rRepA X.K) := by
  intro pins s σ H x y v u Q I rx ry h
  obtain ⟨l, k, xs, rfl, rfl, hT, hne, h1, h2, hz, q1, q⟩ := h
  by_cases hk : 2 ≤ k
  · exact op_repT pins s σ H _ _ v u Q I rx ry ⟨l, k, xs, rfl, rfl, hT, hne, hk, h2, hz, q (by omega)⟩
  · cases rx
    obtain ⟨t, rfl⟩ := ry
    obtain ⟨its, r, ⟨⟨cls, dd, data, sl⟩, ho, hc, n, hd⟩, hs⟩ := I.tuple hT
    simp only at hc hd
    subst hc hd
    have hn : its.toArray.isEmpty = false := by
      cases r with
      | nil => exact absurd rfl hne
      | cons a b => rfl
    by_cases hk1 : k = 1
    · subst hk1
      exact wpAny_binaryOp_repeat_ref (T := "tuple") (U := "int") (by decide) ⟨_, ho, rfl⟩ (fun s' => typeIs_int s' 1 t) noFill_tuple_mul F.fills_int_mul F.slot_int_rmul repeat_tuple F.slot_int_index.lookup
        (call_meets F.slot_int_rmul (typeIs_int s 1 t) F.entry_int_rmul (F.args_int_rmul_2 _ _) (int_rmul_tuple 1 t l its.toArray n dd sl)
          ⟨ho, rfl, ⟨_, ho, rfl⟩, call_meets F.slot_tuple_mul ⟨_, ho, rfl⟩ F.entry_tuple_mul (F.args_tuple_mul_2 _ _) (tm_one l its.toArray n dd sl t) ⟨ho, ⟨.ref l, H, I, rfl, q1 rfl⟩⟩⟩)
    · have c0 : (decide (k < -(2 ^ 63)) || decide (k ≥ 2 ^ 63)) = false := by
        rw [decide_eq_false (by omega), decide_eq_false (by omega)] <;> rfl
      have c1 : (its.toArray.isEmpty || k == 1) = false := by
        rw [hn, Bool.false_or]
        exact beq_eq_false_iff_ne.mpr hk1
      have c2 : (decide (k ≤ 0) || its.toArray.isEmpty) = true := by
        rw [decide_eq_true (by omega : k ≤ 0)] <;> rfl
      refine wpAny_binaryOp_repeat_ref (T := "tuple") (U := "int") (by decide) ⟨_, ho, rfl⟩ (fun s' => typeIs_int s' k t) noFill_tuple_mul F.fills_int_mul F.slot_int_rmul repeat_tuple F.slot_int_index.lookup
        (call_meets F.slot_int_rmul (typeIs_int s k t) F.entry_int_rmul (F.args_int_rmul_2 _ _) (int_rmul_tuple k t l its.toArray n dd sl)
          ⟨ho, rfl, ⟨_, ho, rfl⟩, call_meets F.slot_tuple_mul ⟨_, ho, rfl⟩ F.entry_tuple_mul (F.args_tuple_mul_2 _ _) (tm_zero l its.toArray n dd sl k t c0 c1 c2) ⟨ho, ?_⟩⟩)
      have e0 : k.toNat = 0 := by omega
      have q' := q hk1
      rw [e0] at q'
      exact ⟨.ref s.heap.objs.size, _, I.laid (t' := s.toks) (o := .tup []) (fun b ob q => Heap.get?_push_of_some _ q) (Nat.le_refl _) ⟨Nat.zero_le _, [], .nil, IsTup.new _ _⟩, rfl, q' _ (I.hok.fresh (Nat.le_refl _))⟩
/-- math.factorial of a small number -/
def rFact : List V → Hp → VK → Prop := fun vs H Q => ∃ a : Int, vs = [.int a] ∧ 0 ≤ a ∧ a ≤ 12 ∧ Q (.int ((Builtin.Math.factorialNat a.toNat : Nat) : Int)) H
theorem cr_factorial : CallR X (.builtin "math.factorial") rFact := by
  intro pins s σ H vs us Q I r h
  obtain ⟨a, rfl, h0, h1, q⟩ := h
  obtain ⟨u, rfl, rr⟩ := Vals.one r
  obtain ⟨t, rfl⟩ := rr
  have e1 : Builtin.Math.maxSsize = 2 ^ 63 - 1 := rfl
  have e2 : Builtin.Math.manyFactors = 20000 := rfl
  refine PySem.W.mg_factorial (by rw [e1]; omega) (by omega) (by rw [e2]; omega) ?_ ⟨.int _, H, I.tok _, ⟨_, rfl⟩, q⟩
  have hb : ∀ n : Nat, n ≤ 12 → (((Builtin.Math.factorialNat n : Nat) : Int)).natAbs.log2 < bitsLine := by
    intro n hn
    rw [Int.natAbs_natCast]
    have : Builtin.Math.factorialNat n ≤ 479001600 := by
      rcases n with _ | _ | _ | _ | _ | _ | _ | _ | _ | _ | _ | _ | _ | n <;> first | decide | omega
    refine Nat.lt_of_le_of_lt (m := 28) ?_ (by decide)
    by_cases h0 : Builtin.Math.factorialNat n = 0
    · rw [h0]; decide
    · have := (Nat.log2_lt h0).mpr (show Builtin.Math.factorialNat n < 2 ^ 29 by omega)
      omega
  exact hb _ (by omega)
theorem pget_list : PGet X (rIxL X.K) := by
  intro pins s σ H o i ov iv Q I ro ri h
  obtain ⟨p, xs, k, v, rfl, rfl, hq, he, q⟩ := h
  cases ro
  obtain ⟨t, rfl⟩ := ri
  obtain ⟨its, r, pl, hz⟩ := I.list hq
  obtain ⟨j, h1, h2, h3, h4, h5⟩ := atI_get he
  obtain ⟨w, ew, rw'⟩ := r.get h2
  have hl := r.length
  have hn := line63
  have fin : EP X pins σ Q w s := ⟨v, H, I, rw', q⟩
  by_cases h0 : 0 ≤ k
  · have hj : k.toNat = j := by
      rw [seqIndex_of h0 h5] at h1
      exact Option.some.inj h1
    exact wpAny_getItem_list pl.isList h0 (by omega) (by rw [hj]; simpa using ew) fin
  · have hj : (k + (its.toArray.size : Int)).toNat = j := by
      rw [seqIndex_neg (by omega) h4] at h1
      rw [List.size_toArray, ← hl]
      exact Option.some.inj h1
    exact wpAny_getItem_list_neg pl.isList (by omega) (by rw [List.size_toArray] <;> omega) (by omega) (by rw [hj]; simpa using ew) fin
end
section
variable {K : PySem.W.Frag} {env : Env K} {os : Os} {ta tb te : TE} {α : Type} [iα : Py K α]
theorem paired_rep {F : V → α → Prop} {vs : List V} {xs : List α} (r : Paired F vs xs) : ∀ k : Nat, Paired F (List.replicate k vs).flatten (List.replicate k xs).flatten
  | 0 => .nil
  | k + 1 => by
    rw [List.replicate_succ, List.replicate_succ, List.flatten_cons, List.flatten_cons]
    exact paired_append r (paired_rep r k)
theorem ev_repT {xs : Tup α} {k : Int} (ha : Ev ta env os xs) (hb : Ev tb env os k) (hx : xs.l ≠ [] ∧ xs.l.length ≤ 1000) (hk : -1000 ≤ k ∧ k ≤ 1000) : Ev (tOp (rRepA K) ta tb) env os (Tup.mk (List.replicate k.toNat xs.l).flatten) := fun {b g h' σ Q} s q =>
  ha s fun v g1 h1 l1 r1 => hb (s.le l1) fun w g2 h2 l2 r2 => by
    obtain ⟨a, vs, rfl, h3, h4⟩ := r1
    cases r2
    have h3' := l2.gg _ _ h3
    have h4' := pr_mono l2.gg h4
    refine ⟨a, k, vs, rfl, rfl, same_tup l2.gh h3', fun e => hx.1 ?_, hk.1, hk.2, by rw [h4.length]; exact hx.2, fun e => ?_, fun _ p hp => ?_⟩
    · have := h4.length
      rw [e] at this
      exact List.eq_nil_of_length_eq_zero this.symm
    · subst e
      refine q _ _ _ (l1.trans l2) ⟨a, vs, rfl, h3', ?_⟩
      show Paired _ vs (List.replicate 1 xs.l).flatten
      simpa using h4'
    · exact q _ (upd g2 p (.tup (List.replicate k.toNat vs).flatten)) _ ((l1.trans l2).trans (Le.laid l2.gh hp)) ⟨p, _, rfl, upd_same, pr_mono (Le.laid l2.gh hp).gg (paired_rep h4' _)⟩
theorem ev_fact {x : Int} (ha : Ev ta env os x) (hx : 0 ≤ x ∧ x ≤ 12) : Ev (tCB rFact (tCons ta tNil)) env os ((Builtin.Math.factorialNat x.toNat : Nat) : Int) := ev_cb1 ha fun v g h e r Q q => by
  cases r
  exact ⟨x, rfl, hx.1, hx.2, q _ g h (Le.refl e) rfl⟩
variable {b : Bs} {g h : Hp} {σ : L2.St} {D : Ends} {i : Nat}
/-- x[k] += e on an owned list of ints -/
theorem st_augO {m : Nat} {l : Addr} {xs : List Int} {f : Int → Int → Int} {n x y : Int} (s : S0 b g h σ env os) (hx : env[i]? = some (.val V inferInstance (V.ref l))) (ho : os[m]? = some (l, Own.lst K xs)) (hb : Ev tb env os n) (h0 : 0 ≤ n) (h1 : n < xs.length) (hn : xs[n.toNat]? = some x) (e : Ev te env os y)
    (k : ∀ g' h', S0 b g' h' σ env (os.set m (l, Own.lst K (xs.set n.toNat (f x y)))) → D.nx σ h') : tAugS (tVar i) tb te (rIxL K) (ipI f) rSetL D σ h := by
  unfold tAugS
  refine ev_var hx s fun v g1 h1' l1 r1 => hb (s.le l1) fun w g2 h2 l2 r2 => ?_
  cases r1
  have s2 := (s.le l1).le l2
  obtain ⟨vs, e2, p2⟩ := own_seq s2 ho
  have hat : atI xs n = some x := by unfold atI; rw [ixN_eq h0 h1]; exact hn
  obtain ⟨z, ez, rz⟩ := atI_map p2 hat
  refine ⟨l, vs, n, z, rfl, r2, SqL.of e2, ez, e s2 fun w3 g3 h3 l3 r3 => ⟨x, y, rz, r3, ?_⟩⟩
  have s3 := s2.le l3
  obtain ⟨ws, e3, p3⟩ := own_seq s3 ho
  have rz3 : Py.R (K := K) g3 (V.int (f x y)) (f x y) := rfl
  exact ⟨l, ws, n, n.toNat, rfl, r2, e3, ixN_eq h0 (by rw [p3.length]; exact h1), k g3 _ (s3.put (w' := Own.lst K (xs.set n.toNat (f x y))) ho ⟨_, rfl, paired_set rz3 _ p3⟩)⟩
end
end Lw
/-! zip, several targets. -/
namespace Lw
open PySem PySem.Spec PyProof.Rows L2 RZ
section
variable {K : PySem.W.Frag} {env : Env K} {os : Os} {ta tb te : TE} {α β γ : Type} [iα : Py K α] [iβ : Py K β] [iγ : Py K γ]
variable {b : Bs} {g h : Hp} {σ : L2.St} {D : Ends} {i j : Nat}
theorem st_tgt {gt : TG} {ws : List Nat} {f : Env K → α → Env K} {x : α} (hg : TgtF (K := K) gt ws f) (s : S0 b g h σ env os) (e : Ev te env os x) (k : ∀ g' h' σ', S0 b g' h' σ' (f env x) os → D.nx σ' h') : tAsg te gt D σ h :=
  e s fun v g' h' l r => hg (s.le l) r fun σ2 _ s2 => k g' h' σ2 s2
theorem st_par {x : α} {y : β} (s : S0 b g h σ env os) (e1 : Ev ta env os x) (e2 : Ev tb env os y) (k : ∀ v w g' h', S0 b g' h' ((σ.set i (some v)).set j (some w)) ((env.set i (sv x)).set j (sv y)) os → D.nx ((σ.set i (some v)).set j (some w)) h') : tPar i j (tCons ta (tCons tb tNil)) D σ h :=
  e1 s fun v g1 h1 l1 r1 => e2 (s.le l1) fun w g2 h2 l2 r2 => ⟨v, w, rfl, k v w g2 h2 ((((s.le l1).le l2).set (t := sv x) ⟨v, rfl, iα.mono l2.gg r1⟩).set (t := sv y) ⟨w, rfl, r2⟩)⟩
theorem st_for_zipT {tbd : TS} {gt : TG} {ws : List Nat} {f : Env K → α × β → Env K} {xs : Tup α} {ys : Tup β} (hg : TgtF (K := K) gt ws f) (s : S0 b g h σ env os) (ea : Ev ta env os xs) (eb : Ev tb env os ys) (hl : xs.l.length = ys.l.length) (I : Nat → Env K → Os → Prop) (h0 : I 0 env os)
    (hs : ∀ n x y, xs.l[n]? = some x → ys.l[n]? = some y → Turn1 b D tbd I n (fun e => f e (x, y))) (hd : ∀ env' os' g' h' σ', I xs.l.length env' os' → S0 b g' h' σ' env' os' → D.nx σ' h') : tFor (iZipA K (tCons ta (tCons tb tNil))) gt tbd D σ h := by
  refine ea s fun v g1 h1 l1 r1 => eb (s.le l1) fun w g2 h2 l2 r2 => ?_
  obtain ⟨a, us, rfl, hq, hp⟩ := r1
  obtain ⟨a', ws', rfl, hq', hp'⟩ := r2
  have hq2 := l2.gg _ _ hq
  have hp2 := pr_mono l2.gg hp
  refine ⟨a, a', us, ws', rfl, .inr ⟨same_tup l2.gh hq2, same_tup l2.gh hq', ?_⟩⟩
  refine for_zipT (K := K) (a := a) (b := a') (xs := us) (ys := ws') (by rw [hp.length, hp'.length]; exact hl) (fun n σ' h' => ∃ g' env' os', Same g2 g' ∧ I n env' os' ∧ S0 b g' h' σ' env' os') ⟨g2, env, os, Same.refl _, h0, (s.le l1).le l2⟩
    (fun n σ' h' ⟨g', _, _, e1, _, s'⟩ => ⟨same_tup (e1.trans s'.gh) hq2, same_tup (e1.trans s'.gh) hq'⟩) ?_ ?_
  · rintro n x y T σ' h' hx hy ⟨g', env', os', e1, hI, s'⟩ hT
    obtain ⟨x', hx', rx⟩ := paired_getL hp2 hx
    obtain ⟨y', hy', ry⟩ := paired_getL hp' hy
    have ld : Le g' h' (upd g' T (.tup [x, y])) (upd h' T (.tup [x, y])) := Le.laid s'.gh hT
    have rp : (instPair (K := K) (α := α) (β := β)).R (upd g' T (.tup [x, y])) (.ref T) (x', y') := ⟨T, x, y, rfl, upd_same, iα.mono (e1.trans ld.gg) rx, iβ.mono (e1.trans ld.gg) ry⟩
    exact turn1_go hg (hs n x' y' hx' hy') hI (s'.le ld) rp fun env2 os2 g3 h3 σ2 e2 hI2 s2 => ⟨g3, env2, os2, (e1.trans ld.gg).trans e2, hI2, s2⟩
  · rintro σ' h' ⟨g', env', os', e1, hI, s'⟩
    rw [hp.length] at hI
    exact hd env' os' g' h' σ' hI s'
end
section
variable {X : Cx}
theorem sumT_raw {prog : Program} {w : World} {A : Around} {E : Value → Shared → Prop} {s : Shared} {l : Addr} {its : List Value} {ns : List Int} {Q : Value → Shared → Prop} (hh : A.handled = none) (hl : s.heap.IsTuple l its.toArray) (hi : IntsAre its ns)
    (h : ∀ h' tk t', (∀ b o, s.heap.get? b = some o → h'.get? b = some o) → Q (.int ns.sum t') { s with heap := h', toks := tk }) : wpAny (model prog w) A (call (.builtin "sum") [.ref l]) Q E s := by
  obtain ⟨xs, e⟩ := hi.allInts.items
  have hn : numsOf (intItems xs).toList = ns := by rw [← e]; exact hi.numsOf
  rw [nums_intItems] at hn
  rw [e] at hl
  refine PySem.W.ktm_sumG hh hl fun h' tk t' hk => ?_
  have := h h' tk t' hk
  rw [preSum_eq, List.take_of_length_le (by simp), hn]; exact this
def rSumT (K : PySem.W.Frag) : List V → Hp → VK → Prop := fun vs H Q => ∃ (a : Addr) (ns : List Int), vs = [V.ref a] ∧ SqT K H a (ns.map V.int) ∧ Q (.int ns.sum) H
theorem cr_sumT (hc : X.calm = true) : CallR X (.builtin "sum") (rSumT X.K) := by
  intro pins s σ H vs us Q I r h
  obtain ⟨a, ns, rfl, hs, q⟩ := h
  obtain rfl := Vals.ref1 r
  obtain ⟨its, rr, p, hz⟩ := I.tuple hs
  exact sumT_raw (I.ok.hd hc) p rr.ints fun h' tk t' k => ⟨.int ns.sum, H, I.kept k, ⟨_, rfl⟩, q⟩
end
section
variable {K : PySem.W.Frag} {env : Env K} {os : Os} {ta tb te : TE} {α : Type} [iα : Py K α]
theorem ev_sumT {xs : Tup Int} (ha : Ev ta env os xs) : Ev (tCB (rSumT K) (tCons ta tNil)) env os xs.l.sum := ev_cb1 ha fun v g h e r Q q => by
  obtain ⟨a, vs, rfl, h1, h2⟩ := r
  refine ⟨a, xs.l, rfl, ?_, q _ g h (Le.refl e) rfl⟩
  rw [← paired_eq h2]
  exact same_tup e h1
/-- [..] * k -/
theorem en_repL {tl : TA} {xs : List α} {k : Int} (el : EvL tl env os xs) (hb : Ev tb env os k) (hx : xs.length ≤ 1000) (hk : 0 ≤ k ∧ k ≤ 1000) : EvN (tOp rRep (tLst tl) tb) env os (List.replicate k.toNat xs).flatten := fun {b g h σ Q} s q =>
  el s fun vs g1 h1 l1 r1 => ⟨by rw [r1.length]; exact Nat.le_trans hx (by decide), fun p hp => by
    have ld : Le g1 h1 (upd g1 p (.lst vs)) (upd h1 p (.lst vs)) := Le.laid l1.gh hp
    refine hb ((s.le l1).le ld) fun w g2 h2 l2 r2 => ?_
    cases r2
    refine ⟨p, k, vs, rfl, rfl, l2.hh _ _ upd_same, by omega, by omega, ?_, fun p' hp' => ?_⟩
    · have : vs.length * k.toNat ≤ 1000 * 1000 := Nat.mul_le_mul (by rw [r1.length]; exact hx) (by omega)
      exact Nat.le_trans this (by decide)
    · exact q p' (List.replicate k.toNat vs).flatten g2 h2 ((l1.trans ld).trans l2) hp' (pr_mono (ld.gg.trans l2.gg) (paired_rep r1 _))⟩
end
end Lw
/-! isinstance, == at any depth, list + list, extend, in. -/
namespace Lw
open PySem PySem.Spec PyProof.Rows L2
/-! ### types by name -/
class PyT (K : PySem.W.Frag) (α : Type) [i : Py K α] (nm : outParam String) where
  ty : ∀ {g h : Hp} {v : V} {x : α}, Same g h → i.R g v x → TyX K h v (.type nm)
section
variable {K : PySem.W.Frag} {α β : Type} [iα : Py K α] [iβ : Py K β]
theorem tyx_list {h : Hp} {a : Addr} {vs : List V} (q : SqL K h a vs) : TyX K h (.ref a) (.type "list") := by
  rcases q with (q | ⟨o, q⟩) | ⟨o, its, n, q, c, _⟩
  · exact .base (.lst q)
  · exact .base (.frz q)
  · exact .kList q c
theorem tyx_tup {h : Hp} {a : Addr} {vs : List V} (q : SqT K h a vs) : TyX K h (.ref a) (.type "tuple") := by
  rcases q with (q | ⟨o, q⟩) | ⟨o, its, n, q, c, _⟩
  · exact .base (.tup q)
  · exact .fTuple q
  · exact .kTuple q c
instance : PyT K Int "int" := ⟨fun _ r => by cases r; exact .base (.int _)⟩
instance : PyT K Bool "bool" := ⟨fun _ r => by cases r; exact .base (.bl _)⟩
instance : PyT K Str "str" := ⟨fun _ r => by cases r; exact .base (.str _)⟩
instance : PyT K Unit "NoneType" := ⟨fun _ r => by cases r; exact .base .non⟩
instance : PyT K (List α) "list" := ⟨fun e r => by obtain ⟨a, vs, rfl, q, _⟩ := r; exact tyx_list (e.seq q)⟩
instance : PyT K (Tup α) "tuple" := ⟨fun e r => by obtain ⟨a, vs, rfl, q, _⟩ := r; exact tyx_tup (same_tup e q)⟩
instance : PyT K (α × β) "tuple" := ⟨fun e r => by obtain ⟨a, u, w, rfl, q, _⟩ := r; exact tyx_tup (same_tup e q)⟩
end
/-! ### data for == -/
class PyD (K : PySem.W.Frag) (α : Type) [i : Py K α] (dep : outParam Nat) where
  d : α → PyData
  ok : α → Prop
  dp : ∀ {g h : Hp} {v : V} {x : α}, Same g h → i.R g v x → Dp K h v (d x)
  lay : ∀ {x : α}, ok x → (d x).canLay0 = true
  deep : ∀ x : α, (d x).depth ≤ dep
  eq : ∀ {x y : α}, PyData.eqv (d x) (d y) = true ↔ x = y
section
variable {K : PySem.W.Frag}
instance : PyD K Int 0 := ⟨.int, fun _ => True, fun _ r => by cases r; exact .int _, fun _ => rfl, fun _ => Nat.le_refl _, fun {x y} => by show (x == y) = true ↔ _; exact beq_iff_eq⟩
instance : PyD K Bool 0 := ⟨.bool, fun _ => True, fun _ r => by cases r; exact .bl _, fun _ => rfl, fun _ => Nat.le_refl _, fun {x y} => by show (x == y) = true ↔ _; exact beq_iff_eq⟩
instance : PyD K Str 0 := ⟨.str, fun x => x.cps.all (· < 0x110000) = true, fun _ r => by cases r; exact .str _, fun h => h, fun _ => Nat.le_refl _, fun {x y} => by show (x == y) = true ↔ _; exact beq_iff_eq⟩
variable {α β : Type} [iα : Py K α] {nα nβ : Nat} [dα : PyD K α nα] [iβ : Py K β] [dβ : PyD K β nβ]
theorem dp_all {g h : Hp} (e : Same g h) : ∀ {vs : List V} {xs : List α}, Paired (iα.R g) vs xs → DpAll K h vs (xs.map dα.d)
  | _, _, .nil => .nil
  | _, _, .cons r t => .cons (dα.dp e r) (dp_all e t)
theorem lay_all : ∀ {xs : List α}, (∀ x ∈ xs, dα.ok x) → PyData.canLayAll0 (xs.map dα.d) = true
  | [], _ => rfl
  | x :: xs, h => by
    show ((dα.d x).canLay0 && PyData.canLayAll0 (xs.map dα.d)) = true
    rw [dα.lay (h x List.mem_cons_self), lay_all fun y hy => h y (List.mem_cons_of_mem _ hy)]; rfl
theorem deep_all : ∀ {xs : List α}, PyData.depthAll (xs.map dα.d) ≤ nα
  | [] => Nat.zero_le _
  | x :: xs => Nat.max_le.mpr ⟨dα.deep x, deep_all⟩
theorem eq_all : ∀ {xs ys : List α}, PyData.eqvAll (xs.map dα.d) (ys.map dα.d) = true ↔ xs = ys
  | [], [] => by show true = true ↔ _; simp
  | [], y :: ys => by show false = true ↔ _; simp
  | x :: xs, [] => by show false = true ↔ _; simp
  | x :: xs, y :: ys => by
    show (PyData.eqv (dα.d x) (dα.d y) && PyData.eqvAll (xs.map dα.d) (ys.map dα.d)) = true ↔ _
    rw [Bool.and_eq_true, dα.eq, eq_all]
    simp
instance : PyD K (List α) (nα + 1) where
  d xs := .list (xs.map dα.d)
  ok xs := ∀ x ∈ xs, dα.ok x
  dp e r := by obtain ⟨a, vs, rfl, q, p⟩ := r; exact .lst (e.seq q) (dp_all e p)
  lay h := lay_all h
  deep xs := Nat.succ_le_succ deep_all
  eq := eq_all
theorem tup_eq {x y : Tup α} : x.l = y.l ↔ x = y := by cases x; cases y; simp
instance : PyD K (Tup α) (nα + 1) where
  d xs := .tuple (xs.l.map dα.d)
  ok xs := ∀ x ∈ xs.l, dα.ok x
  dp e r := by obtain ⟨a, vs, rfl, q, p⟩ := r; exact .tup (same_tup e q) (dp_all e p)
  lay h := lay_all h
  deep xs := Nat.succ_le_succ deep_all
  eq := eq_all.trans tup_eq
instance : PyD K (α × β) (max nα nβ + 1) where
  d x := .tuple [dα.d x.1, dβ.d x.2]
  ok x := dα.ok x.1 ∧ dβ.ok x.2
  dp e r := by obtain ⟨a, u, w, rfl, q, p1, p2⟩ := r; exact .tup (same_tup e q) (.cons (dα.dp e p1) (.cons (dβ.dp e p2) .nil))
  lay {x} h := by
    show ((dα.d x.1).canLay0 && ((dβ.d x.2).canLay0 && true)) = true
    rw [dα.lay h.1, dβ.lay h.2]; rfl
  deep x := by
    have h1 := dα.deep x.1
    have h2 := dβ.deep x.2
    show max (dα.d x.1).depth (max (dβ.d x.2).depth 0) + 1 ≤ _
    omega
  eq {x y} := by
    show (PyData.eqv (dα.d x.1) (dα.d y.1) && (PyData.eqv (dβ.d x.2) (dβ.d y.2) && true)) = true ↔ _
    rw [Bool.and_true, Bool.and_eq_true, dα.eq, dβ.eq]
    cases x; cases y; simp
end
section
variable {K : PySem.W.Frag} {env : Env K} {os : Os} {ta tb te tx tl : TE} {α β γ : Type} [iα : Py K α] [iβ : Py K β] [iγ : Py K γ]
variable {b : Bs} {g h : Hp} {σ : L2.St} {D : Ends} {i j : Nat}
theorem ev_isi {x : α} {c : Bool} {T T0 : String} [t : PyT K α T0] (ha : Ev ta env os x) (hk : kitB T0 T = some c := by decide +kernel) : Ev (tCB (rIsi K) (tCons ta (tCons (tC (.ty T)) tNil))) env os c := fun {b g h σ Q} s q =>
  ha s fun v g1 h1 l1 r1 => ⟨v, .ty T, _, _, c, rfl, .ty T, t.ty l1.gh r1, kit_ty hk, q _ _ _ l1 rfl⟩
theorem shaped_of {n : Nat} [d : PyD K α n] {x : α} (h : d.ok x) (hd : n ≤ 64) : SeqAt.shaped (d.d x) = true := by
  unfold SeqAt.shaped
  rw [d.lay h, decide_eq_true (Nat.le_trans (d.deep x) hd)]; rfl
theorem ev_eqD {n : Nat} [d : PyD K α n] {x y : α} {c : Bool} (ha : Ev ta env os x) (hb : Ev tb env os y) (hc : c = true ↔ x = y) (ox : d.ok x := by first | exact trivial | exact ⟨trivial, trivial⟩ | exact fun _ _ => trivial | exact fun _ _ => ⟨trivial, trivial⟩) (oy : d.ok y := by first | exact trivial | exact ⟨trivial, trivial⟩ | exact fun _ _ => trivial | exact fun _ _ => ⟨trivial, trivial⟩) (hd : n ≤ 64 := by decide) : Ev (tOp (rEqD K) ta tb) env os c := fun {b g h σ Q} s q =>
  ha s fun v g1 h1 l1 r1 => hb (s.le l1) fun w g2 h2 l2 r2 => by
    have e : PyData.eqv (d.d x) (d.d y) = c := by
      cases c with
      | true => exact d.eq.mpr (hc.mp rfl)
      | false =>
        cases q : PyData.eqv (d.d x) (d.d y) with
        | false => rfl
        | true => exact (hc.mpr (d.eq.mp q)).symm ▸ rfl
    exact ⟨_, _, d.dp (l2.gg.trans l2.gh) r1, d.dp l2.gh r2, shaped_of ox hd, shaped_of oy hd, by rw [e]; exact q _ _ _ (l1.trans l2) rfl⟩
theorem ev_neD {n : Nat} [d : PyD K α n] {x y : α} {c : Bool} (ha : Ev ta env os x) (hb : Ev tb env os y) (hc : c = true ↔ x = y) (ox : d.ok x := by first | exact trivial | exact ⟨trivial, trivial⟩ | exact fun _ _ => trivial | exact fun _ _ => ⟨trivial, trivial⟩) (oy : d.ok y := by first | exact trivial | exact ⟨trivial, trivial⟩ | exact fun _ _ => trivial | exact fun _ _ => ⟨trivial, trivial⟩) (hd : n ≤ 64 := by decide) : Ev (tOp (rNeD K) ta tb) env os (!c) := fun {b g h σ Q} s q =>
  ha s fun v g1 h1 l1 r1 => hb (s.le l1) fun w g2 h2 l2 r2 => by
    have e : PyData.eqv (d.d x) (d.d y) = c := by
      cases c with
      | true => exact d.eq.mpr (hc.mp rfl)
      | false =>
        cases q : PyData.eqv (d.d x) (d.d y) with
        | false => rfl
        | true => exact (hc.mpr (d.eq.mp q)).symm ▸ rfl
    exact ⟨_, _, d.dp (l2.gg.trans l2.gh) r1, d.dp l2.gh r2, shaped_of ox hd, shaped_of oy hd, by rw [e]; exact q _ _ _ (l1.trans l2) rfl⟩
/-- a pair, looked at as a tuple of items that are alike -/
theorem ev_tupP {x : α × α} (ha : Ev ta env os x) : Ev ta env os (Tup.mk [x.1, x.2]) := fun {b g h σ Q} s q =>
  ha s fun v g1 h1 l1 r1 => q v g1 h1 l1 (by
    obtain ⟨a, u, w, rfl, h3, h4, h5⟩ := r1
    exact ⟨a, [u, w], rfl, h3, .cons h4 (.cons h5 .nil)⟩)
/-- a list that stands as an object of its own: new, or owned -/
def EvH (te : TE) (env : Env K) (os : Os) (xs : List α) : Prop :=
  ∀ {b : Bs} {g h : Hp} {σ : L2.St} {Q : VK}, S0 b g h σ env os → (∀ l vs g' h', Le g h g' h' → h' l = some (.lst vs) → Paired (iα.R g') vs xs → Q (.ref l) h') → te σ h Q
theorem EvN.held {xs : List α} (hn : EvN te env os xs) : EvH te env os xs := fun {b g h σ Q} s q =>
  hn s fun l vs g1 h1 l1 hl p => q l vs g1 _ ⟨l1.gg, fun a o z => by
    have := l1.hh a o z
    rw [upd_ne (ne_of_none this hl)]; exact this, fun a o z => by
    have := l1.gh a o z
    rw [upd_ne (ne_of_none this hl)]; exact this, l1.new⟩ upd_same p
theorem eh_own {m : Nat} {l : Addr} {xs : List α} (hx : env[i]? = some (.val V inferInstance (V.ref l))) (ho : os[m]? = some (l, Own.lst K xs)) : EvH (tVar i) env os xs := fun {b g h σ Q} s q =>
  ev_var hx s fun v g1 h1 l1 r1 => by
    cases r1
    obtain ⟨vs, e, p⟩ := own_seq (s.le l1) ho
    exact q l vs g1 h1 l1 e p
theorem en_slL {xs : List α} {lo hi : Option Int} {tl th : TO} (ha : Ev ta env os xs) (h1 : EvO tl env os lo) (h2 : EvO th env os hi) : EvN (tSl (rSlL K) ta tl th) env os (cut xs lo hi) := fun {b g h' σ Q} s q =>
  ha s fun v g1 h3 l1 r1 => h1 (s.le l1) fun g2 h4 l2 => h2 ((s.le l1).le l2) fun g3 h5 l3 => by
    obtain ⟨a, vs, rfl, h6, h7⟩ := r1
    have l := l2.trans l3
    exact ⟨a, vs, rfl, (l.gg.trans l.gh).seq h6, fun p hp => q p (cutV vs lo hi) g3 h5 (l1.trans l) hp (pr_mono l.gg (paired_cut h7))⟩
theorem en_cat {xs ys : List α} (ha : EvH ta env os xs) (hb : EvH tb env os ys) (hl : xs.length + ys.length ≤ 1000000) : EvN (tOp rCat ta tb) env os (xs ++ ys) := fun {b g h σ Q} s q =>
  ha s fun l vs g1 h1 l1 e1 p1 => hb (s.le l1) fun l' ws g2 h2 l2 e2 p2 =>
    ⟨l, l', vs, ws, rfl, rfl, l2.hh _ _ e1, e2, by rw [p1.length, p2.length]; exact Nat.le_trans hl (by decide), fun p hp => q p _ g2 h2 (l1.trans l2) hp (paired_append (pr_mono l2.gg p1) p2)⟩
/-- x.extend(e) -/
theorem st_extend {m : Nat} {l : Addr} {xs ys : List α} (s : S0 b g h σ env os) (hx : env[i]? = some (.val V inferInstance (V.ref l))) (ho : os[m]? = some (l, Own.lst K xs)) (hl : xs.length + ys.length ≤ 1000000) (e : EvH te env os ys)
    (k : ∀ g' h', S0 b g' h' σ env (os.set m (l, Own.lst K (xs ++ ys))) → D.nx σ h') : tDrop (tBM K "list" rExtend (tVar i) (tCons te tNil)) D σ h := by
  unfold tDrop tBM
  refine ev_var hx s fun v g1 h1 l1 r1 => ?_
  cases r1
  have s1 := s.le l1
  obtain ⟨vs, e1, p1⟩ := own_seq s1 ho
  refine ⟨.inl ⟨rfl, vs, SqL.of e1⟩, e s1 fun l' zs g2 h2 l2 ez pz => ?_⟩
  have s2 := s1.le l2
  obtain ⟨ws, e2, p2⟩ := own_seq s2 ho
  exact ⟨l, l', ws, zs, rfl, rfl, e2, ez, by rw [p2.length, pz.length]; exact Nat.le_trans hl (by decide), k g2 _ (s2.put (w' := Own.lst K (xs ++ ys)) ho ⟨_, rfl, paired_append p2 pz⟩)⟩
/-! ### in -/
theorem inV_ints {x : Int} {xs : List Int} : inV (.int x) (xs.map V.int) = decide (x ∈ xs) := by
  unfold inV
  rw [List.any_map]
  by_cases h : x ∈ xs
  · rw [decide_eq_true h]
    exact List.any_eq_true.mpr ⟨x, h, by show (x == x) = true; exact beq_self_eq_true x⟩
  · rw [decide_eq_false h]
    exact List.any_eq_false.mpr fun y hy => by
      show ¬ (y == x) = true
      rw [beq_iff_eq]
      rintro rfl
      exact h hy
theorem flat_ints {xs : List Int} : (xs.map V.int).all flatV = true := by rw [List.all_map]; exact List.all_eq_true.mpr fun _ _ => rfl
theorem ev_inTI {x : Int} {xs : Tup Int} (ha : Ev ta env os x) (hb : Ev tb env os xs) : Ev (tOp (rIn K false) ta tb) env os (decide (x ∈ xs.l)) := fun {b g h σ Q} s q =>
  ha s fun v g1 h1 l1 r1 => hb (s.le l1) fun w g2 h2 l2 r2 => by
    cases r1
    obtain ⟨a, vs, rfl, h3, h4⟩ := r2
    have e := paired_eq h4
    subst e
    exact ⟨a, _, rfl, .inr (same_tup l2.gh h3), rfl, flat_ints, by rw [inV_ints]; exact q _ _ _ (l1.trans l2) rfl⟩
theorem ev_niTI {x : Int} {xs : Tup Int} (ha : Ev ta env os x) (hb : Ev tb env os xs) : Ev (tOp (rIn K true) ta tb) env os (!decide (x ∈ xs.l)) := fun {b g h σ Q} s q =>
  ha s fun v g1 h1 l1 r1 => hb (s.le l1) fun w g2 h2 l2 r2 => by
    cases r1
    obtain ⟨a, vs, rfl, h3, h4⟩ := r2
    have e := paired_eq h4
    subst e
    exact ⟨a, _, rfl, .inr (same_tup l2.gh h3), rfl, flat_ints, by rw [inV_ints]; exact q _ _ _ (l1.trans l2) rfl⟩
end
end Lw
/-! The rules that name the written part, with its name told: they stand within a comprehension's block too. -/
namespace Lw
open PySem PySem.Spec PyProof.Rows L2
section
variable {X : Cx} (K : PySem.W.Frag)
theorem ix_listK (h : X.K = K := by rfl) : IxR X (rIxL K) := h ▸ ix_list
theorem ix_tupK (h : X.K = K := by rfl) : IxR X (rIxT K) := h ▸ ix_tup
theorem sl_listK (h : X.K = K := by rfl) : SlR X (rSlL K) := h ▸ sl_list
theorem sl_tupAK (h : X.K = K := by rfl) : SlR X (rSlA K) := h ▸ sl_tupA
theorem op_catAK (h : X.K = K := by rfl) : OpR X (binaryOp .Add) (rCatA K) := h ▸ op_catA
theorem op_repTAK (h : X.K = K := by rfl) : OpR X (binaryOp .Mult) (rRepA K) := h ▸ op_repTA
theorem len_seqK (h : X.K = K := by rfl) : CallR X (.builtin "len") (fun xs H Q => ∃ p ys, xs = [.ref p] ∧ (SqL K H p ys ∨ SqT K H p ys) ∧ Q (.int ys.length) H) := h ▸ call_len_seq
theorem list_ofK (h : X.K = K := by rfl) : CallR X (.type "list") (fun xs H Q => ∃ p ys, xs = [.ref p] ∧ (SqL K H p ys ∨ SqT K H p ys) ∧ ∀ l, H l = none → Q (.ref l) (upd H l (.lst ys))) := h ▸ call_list_of
theorem tuple_ofK (h : X.K = K := by rfl) : CallR X (.type "tuple") (fun xs H Q => ∃ p ys, xs = [.ref p] ∧ ((SqL K H p ys ∧ ∀ l, H l = none → Q (.ref l) (upd H l (.tup ys))) ∨ (SqT K H p ys ∧ Q (.ref p) H))) := h ▸ call_tuple_of
theorem sumK (hc : X.calm = true := by rfl) (h : X.K = K := by rfl) : CallR X (.builtin "sum") (rSum K) := h ▸ cr_sum hc
theorem sumTK (hc : X.calm = true := by rfl) (h : X.K = K := by rfl) : CallR X (.builtin "sum") (rSumT K) := h ▸ cr_sumT hc
theorem anyK (hc : X.calm = true := by rfl) (h : X.K = K := by rfl) : CallR X (.builtin "any") (rAny K) := h ▸ cr_any hc
theorem allK (hc : X.calm = true := by rfl) (h : X.K = K := by rfl) : CallR X (.builtin "all") (rAll K) := h ▸ cr_all hc
theorem in_seqK (h : X.K = K := by rfl) : OpR X (compareOp .In) (rIn K false) := h ▸ op_in_seq
theorem ni_seqK (h : X.K = K := by rfl) : OpR X (compareOp .NotIn) (rIn K true) := h ▸ op_notIn_seq
theorem eqDK (hu : X.A.units + 64 < cLine) (h : X.K = K := by rfl) : OpR X (compareOp .Eq) (rEqD K) := h ▸ op_eqD hu
theorem neDK (hu : X.A.units + 64 < cLine) (h : X.K = K := by rfl) : OpR X (compareOp .NotEq) (rNeD K) := h ▸ op_neD hu
theorem isiK (h : X.K = K := by rfl) : CallR X (.builtin "isinstance") (rIsi K) := h ▸ call_isi
theorem pget_listK (h : X.K = K := by rfl) : PGet X (rIxL K) := h ▸ pget_list
theorem pi_listK {tg l : Expr} {tl : TE} (hl : PE X l tl) (h : X.K = K := by rfl) : PI X tg l (iList K tl) := h ▸ pi_list hl
theorem pi_tupK {tg l : Expr} {tl : TE} (hl : PE X l tl) (h : X.K = K := by rfl) : PI X tg l (iTup K tl) := h ▸ pi_tup hl
theorem pt_truthK {a : Expr} {ta : TE} (ha : PE X a ta) (he : ∀ whole, isTrue a X.env whole = (do let v ← whole; standAt a.pos; holding [v] (truthy v)) := by intro _; rfl) (h : X.K = K := by rfl) : PT X a (fun σ H Q => ta σ H fun x H' => ∃ k, TruV K x H' k ∧ Q k H') := h ▸ pt_truth ha he
theorem pg_tupK {es : List Expr} {k : Nat} {t : TGs} {n : Nat} {pos : Pos} (hc : X.calm = true) (hp : PGs X es t) (hn : (assignEach es X.env).length = n := by rfl) (hst : (assignEach es X.env).findIdx? (·.1) = none := by rfl) (h : X.K = K := by rfl) : PG X (.Tuple es k pos) (gTup K n t) := h ▸ pg_tup hc hp hn hst
end
section
variable {K : PySem.W.Frag} {env : Env K} {os : Os} {ta tb te tx tl : TE} {α β γ : Type} [iα : Py K α] [iβ : Py K β] [iγ : Py K γ]
theorem atI_getD {xs : List α} {d : α} {i : Int} (h0 : 0 ≤ i) (h1 : i < xs.length) : atI xs i = some (xs.getD i.toNat d) := by
  have h2 : i.toNat < xs.length := by omega
  unfold atI
  rw [ixN_eq h0 h1]
  show xs[i.toNat]? = _
  rw [List.getD_eq_getElem?_getD, List.getElem?_eq_getElem h2]; rfl
theorem ev_ixLD {xs : List α} {i : Int} (d : α) (ha : Ev ta env os xs) (hb : Ev tb env os i) (h0 : 0 ≤ i) (h1 : i < xs.length) : Ev (tOp (rIxL K) ta tb) env os (xs.getD i.toNat d) := ev_ixL ha hb (atI_getD h0 h1)
theorem ev_ixTD {xs : Tup α} {i : Int} (d : α) (ha : Ev ta env os xs) (hb : Ev tb env os i) (h0 : 0 ≤ i) (h1 : i < xs.l.length) : Ev (tOp (rIxT K) ta tb) env os (xs.l.getD i.toNat d) := ev_ixT ha hb (atI_getD h0 h1)
end
end Lw
/-! Steps that change owned objects: expressions whose value is known in part, promises of defs that change what they are handed. -/
namespace Lw
open PySem PySem.Spec PyProof.Rows L2
section
variable {K : PySem.W.Frag}
/-- owned objects stand -/
structure Ow (g h : Hp) (os : Os) : Prop where
  own : ∀ p ∈ os, g p.1 = none ∧ ∃ o : HO, h p.1 = some o ∧ p.2.P g o
  nd : (os.map (·.1)).Nodup
/-- a step that changes nothing but what stands at ls -/
structure LeW (ls : List Addr) (g h g' h' : Hp) : Prop where
  gg : Same g g'
  hh : ∀ a o, a ∉ ls → h a = some o → h' a = some o
  gh : Same g' h'
  th : ∀ a, h a ≠ none → h' a ≠ none
  new : ∀ a, g a = none → h a ≠ none → g' a = none
variable {env : Env K} {os osc os' osz : Os} {ta tb te tx tl : TE} {tt t u : TT} {α β γ : Type} [iα : Py K α] [iβ : Py K β] [iγ : Py K γ]
variable {b : Bs} {g h g' h' : Hp} {σ : L2.St} {D : Ends} {t1 t2 : TS} {i j : Nat}
theorem S0.ow (s : S0 b g h σ env os) : Ow g h os := ⟨s.own, s.nd⟩
theorem Ow.sub (o : Ow g h os) (hs : ∀ p ∈ os', p ∈ os) (nd : (os'.map (·.1)).Nodup) : Ow g h os' := ⟨fun p hp => o.own p (hs p hp), nd⟩
theorem os_inj (nd : (os.map (·.1)).Nodup) {p q : Addr × Own} (hp : p ∈ os) (hq : q ∈ os) (e : p.1 = q.1) : p = q := by
  obtain ⟨i, hi⟩ := List.mem_iff_getElem?.mp hp
  obtain ⟨j, hj⟩ := List.mem_iff_getElem?.mp hq
  have a1 : (os.map (·.1))[i]? = some p.1 := by rw [List.getElem?_map, hi]; rfl
  have a2 : (os.map (·.1))[j]? = some p.1 := by rw [List.getElem?_map, hj, e]; rfl
  have hl : i < (os.map (·.1)).length := (List.getElem?_eq_some_iff.mp a1).1
  have := (List.getElem?_inj hl nd).mp (a1.trans a2.symm)
  subst this
  rw [hi] at hj
  exact Option.some.inj hj
/-- behind a call that was handed the objects osc -/
theorem S0.after (s : S0 b g h σ env os) (hc : ∀ p ∈ osc, p ∈ os) (l : LeW (osc.map (·.1)) g h g' h') (o : Ow g' h' osz) (hf : ∀ p ∈ osz, p.1 ∈ osc.map (·.1) ∨ h p.1 = none)
    (hm : ∀ p ∈ os', p ∈ osz ∨ (p ∈ os ∧ p.1 ∉ osc.map (·.1))) (nd : (os'.map (·.1)).Nodup) : S0 b g' h' σ env os' where
  gh := l.gh
  len := s.len
  sl := fun i t e => Slot.ok_mono l.gg (s.sl i t e)
  own := fun p hp => by
    rcases hm p hp with q | ⟨q, n⟩
    · exact o.own p q
    · obtain ⟨n1, u, e, r⟩ := s.own p q
      exact ⟨l.new _ n1 (some_ne_none e), u, l.hh _ _ n e, p.2.mono l.gg r⟩
  nd := nd
  gg := s.gg.trans l.gg
  fr := fun a u n e => by
    refine l.hh _ _ (fun z => ?_) (s.fr a u n e)
    obtain ⟨p, hp, rfl⟩ := List.mem_map.mp z
    rcases s.ol p (hc p hp) with w | w
    · rw [w] at e; cases e
    · exact n w
  th := fun a n => l.th a (s.th a n)
  new := fun a n m => l.new a (s.new a n m) (s.th a m)
  ol := fun p hp => by
    have key : ∀ q ∈ os, b.h q.1 = none ∨ q.1 ∈ b.ls := s.ol
    rcases hm p hp with q | ⟨q, _⟩
    · rcases hf p q with z | z
      · obtain ⟨r, hr, e⟩ := List.mem_map.mp z
        rw [← e]; exact key r (hc r hr)
      · left
        cases w : b.h p.1 with
        | none => rfl
        | some u => exact absurd z (s.th _ (some_ne_none w))
    · exact key p q
/-- the same objects, changed or not, told as before -/
theorem S0.afterSame (s : S0 b g h σ env os) (hc : ∀ p ∈ osc, p ∈ os) (l : LeW (osc.map (·.1)) g h g' h') (o : Ow g' h' osc) : S0 b g' h' σ env os :=
  s.after hc l o (fun p hp => .inl (List.mem_map_of_mem hp)) (fun p hp => by
    by_cases q : p.1 ∈ osc.map (·.1)
    · obtain ⟨r, hr, e⟩ := List.mem_map.mp q
      rw [← os_inj s.nd (hc r hr) hp e]; exact .inl hr
    · exact .inr ⟨hp, q⟩) s.nd
theorem Le.w (l : Le g h g' h') (ls : List Addr) : LeW ls g h g' h' := ⟨l.gg, fun a o _ e => l.hh a o e, l.gh, fun _ n => sameNe l.hh n, l.new⟩

/-- te gives a value of some x with P x; owned objects may change, and are told as before -/
structure EvW (te : TE) (env : Env K) (os : Os) {α : Type} [i : Py K α] (P : α → Prop) : Prop where
  run : ∀ {b : Bs} {g h : Hp} {σ : L2.St} {os2 : Os} {Q : VK}, S0 b g h σ env (os ++ os2) → (∀ v x g' h', P x → S0 b g' h' σ env (os ++ os2) → Same g g' → i.R g' v x → Q v h') → te σ h Q
structure EvTW (tt : TT) (env : Env K) (os : Os) (P : Bool → Prop) : Prop where
  run : ∀ {b : Bs} {g h : Hp} {σ : L2.St} {os2 : Os} {Q : Bool → Hp → Prop}, S0 b g h σ env (os ++ os2) → (∀ c g' h', P c → S0 b g' h' σ env (os ++ os2) → Same g g' → Q c h') → tt σ h Q
structure EvAW (ta : TA) (env : Env K) (os : Os) (P : List (Slot K) → Prop) : Prop where
  run : ∀ {b : Bs} {g h : Hp} {σ : L2.St} {os2 : Os} {Q : List V → Hp → Prop}, S0 b g h σ env (os ++ os2) → (∀ vs xs g' h', P xs → S0 b g' h' σ env (os ++ os2) → Same g g' → Args g' vs xs → Q vs h') → ta σ h Q
structure EvNW (te : TE) (env : Env K) (os : Os) {α : Type} [i : Py K α] (P : List α → Prop) : Prop where
  run : ∀ {b : Bs} {g h : Hp} {σ : L2.St} {os2 : Os} {Q : VK}, S0 b g h σ env (os ++ os2) → (∀ l vs xs g' h', P xs → S0 b g' h' σ env (os ++ os2) → Same g g' → h' l = none → Paired (i.R g') vs xs → Q (.ref l) (upd h' l (.lst vs))) → te σ h Q
theorem EvW.go {P : α → Prop} {Q : VK} (e : EvW te env os P) (s : S0 b g h σ env os) (k : ∀ v x g' h', P x → S0 b g' h' σ env os → Same g g' → iα.R g' v x → Q v h') : te σ h Q :=
  e.run (os2 := []) (by rw [List.append_nil]; exact s) fun v x g' h' p s' e r => k v x g' h' p (by rw [List.append_nil] at s'; exact s') e r
theorem EvTW.go {P : Bool → Prop} {Q : Bool → Hp → Prop} (e : EvTW tt env os P) (s : S0 b g h σ env os) (k : ∀ c g' h', P c → S0 b g' h' σ env os → Same g g' → Q c h') : tt σ h Q :=
  e.run (os2 := []) (by rw [List.append_nil]; exact s) fun c g' h' p s' e => k c g' h' p (by rw [List.append_nil] at s'; exact s') e
theorem EvNW.go {P : List α → Prop} {Q : VK} (e : EvNW te env os P) (s : S0 b g h σ env os) (k : ∀ l vs xs g' h', P xs → S0 b g' h' σ env os → Same g g' → h' l = none → Paired (iα.R g') vs xs → Q (.ref l) (upd h' l (.lst vs))) : te σ h Q :=
  e.run (os2 := []) (by rw [List.append_nil]; exact s) fun l vs x g' h' p s' e n r => k l vs x g' h' p (by rw [List.append_nil] at s'; exact s') e n r
theorem Ev.w {x : α} (e : Ev te env os x) : EvW te env os (fun y => y = x) := .mk fun {b g h σ os2 Q} s q =>
  e s.drop fun v g' h' l r => q v x g' h' rfl (s.le l) l.gg r
theorem EvT.w {c : Bool} (e : EvT tt env os c) : EvTW tt env os (fun d => d = c) := .mk fun {b g h σ os2 Q} s q =>
  e s.drop fun g' h' l => q c g' h' rfl (s.le l) l.gg
theorem EvN.w {xs : List α} (e : EvN te env os xs) : EvNW te env os (fun y => y = xs) := .mk fun {b g h σ os2 Q} s q =>
  e s.drop fun l vs g' h' le n r => q l vs xs g' h' rfl (s.le le) le.gg n r
theorem EvW.imp {P P' : α → Prop} (e : EvW te env os P) (hp : ∀ x, P x → P' x) : EvW te env os P' := .mk fun {b g h σ os2 Q} s q =>
  e.run s fun v x g' h' p => q v x g' h' (hp x p)
theorem EvTW.imp {P P' : Bool → Prop} (e : EvTW tt env os P) (hp : ∀ x, P x → P' x) : EvTW tt env os P' := .mk fun {b g h σ os2 Q} s q =>
  e.run s fun c g' h' p => q c g' h' (hp c p)
theorem EvNW.imp {P P' : List α → Prop} (e : EvNW te env os P) (hp : ∀ x, P x → P' x) : EvNW te env os P' := .mk fun {b g h σ os2 Q} s q =>
  e.run s fun l vs x g' h' p => q l vs x g' h' (hp x p)
theorem EvNW.w {P : List α → Prop} (h : EvNW te env os P) : EvW te env os P := .mk fun {b g h' σ os2 Q} s q => h.run s fun l vs x g1 h1 p s1 e1 hl r =>
  have le := Le.laid s1.gh hl (o := .lst vs)
  q _ x (upd g1 l (.lst vs)) _ p (s1.le le) (e1.trans le.gg) ⟨l, vs, rfl, .inl (.inl upd_same), pr_mono le.gg r⟩
/-- the values alone -/
theorem S0.slots {vs : List V} {xs : List (Slot K)} (s : S0 b g h σ env os) (r : Args g vs xs) : S0 b g h (vs.map some) xs os :=
  { s with
    len := by rw [List.length_map, args_len r]
    sl := fun i t e => by
      have q := args_get r e
      rw [List.getElem?_map]
      cases hv : vs[i]? with
      | none => rw [hv] at q; exact q
      | some v => rw [hv] at q; exact q }
theorem arg1 {v : V} {x : α} (r : iα.R g v x) : Args g [v] [sv (K := K) x] := .cons ⟨v, rfl, r⟩ .nil
theorem arg2 {v w : V} {x : α} {y : β} (r : iα.R g v x) (r' : iβ.R g w y) : Args g [v, w] [sv (K := K) x, sv y] := .cons ⟨v, rfl, r⟩ (.cons ⟨w, rfl, r'⟩ .nil)
/-- an operation that changes nothing, of values known in part -/
theorem ew_op {r : R2} {P : α → Prop} {P' : β → Prop} {f : α → β → γ} (ha : EvW ta env os P) (hb : EvW tb env os P') (hr : ∀ x y, P x → P' y → Ev (tOp r (tVar 0) (tVar 1)) [sv (K := K) x, sv y] [] (f x y)) :
    EvW (tOp r ta tb) env os (fun z => ∃ x y, P x ∧ P' y ∧ z = f x y) := .mk fun {b g h σ os2 Q} s q =>
  ha.run s fun v x g1 h1 p1 s1 e1 r1 => hb.run s1 fun w y g2 h2 p2 s2 e2 r2 => by
    obtain ⟨v', hv, w', hw, z⟩ := hr x y p1 p2 ((s2.slots (arg2 (iα.mono e2 r1) r2)).drop (os := [])) fun u g3 h3 l3 r3 => q u (f x y) g3 h3 ⟨x, y, p1, p2, rfl⟩ (s2.le l3) (e1.trans (e2.trans l3.gg)) r3
    cases hv; cases hw
    exact z
theorem ew_un {r : V → Hp → VK → Prop} {P : α → Prop} {f : α → γ} (ha : EvW ta env os P) (hr : ∀ x, P x → Ev (tUn r (tVar 0)) [sv (K := K) x] [] (f x)) : EvW (tUn r ta) env os (fun z => ∃ x, P x ∧ z = f x) := .mk fun {b g h σ os2 Q} s q =>
  ha.run s fun v x g1 h1 p1 s1 e1 r1 => by
    obtain ⟨v', hv, z⟩ := hr x p1 ((s1.slots (arg1 r1)).drop (os := [])) fun u g3 h3 l3 r3 => q u (f x) g3 h3 ⟨x, p1, rfl⟩ (s1.le l3) (e1.trans l3.gg) r3
    cases hv
    exact z
theorem ew_cb1 {r : List V → Hp → VK → Prop} {P : α → Prop} {f : α → γ} (ha : EvW ta env os P) (hr : ∀ x, P x → Ev (tCB r (tCons (tVar 0) tNil)) [sv (K := K) x] [] (f x)) : EvW (tCB r (tCons ta tNil)) env os (fun z => ∃ x, P x ∧ z = f x) := .mk fun {b g h σ os2 Q} s q =>
  ha.run s fun v x g1 h1 p1 s1 e1 r1 => by
    obtain ⟨v', hv, z⟩ := hr x p1 ((s1.slots (arg1 r1)).drop (os := [])) fun u g3 h3 l3 r3 => q u (f x) g3 h3 ⟨x, p1, rfl⟩ (s1.le l3) (e1.trans l3.gg) r3
    cases hv
    exact z
theorem ew_cb2 {r : List V → Hp → VK → Prop} {P : α → Prop} {P' : β → Prop} {f : α → β → γ} (ha : EvW ta env os P) (hb : EvW tb env os P') (hr : ∀ x y, P x → P' y → Ev (tCB r (tCons (tVar 0) (tCons (tVar 1) tNil))) [sv (K := K) x, sv y] [] (f x y)) :
    EvW (tCB r (tCons ta (tCons tb tNil))) env os (fun z => ∃ x y, P x ∧ P' y ∧ z = f x y) := .mk fun {b g h σ os2 Q} s q =>
  ha.run s fun v x g1 h1 p1 s1 e1 r1 => hb.run s1 fun w y g2 h2 p2 s2 e2 r2 => by
    obtain ⟨v', hv, w', hw, z⟩ := hr x y p1 p2 ((s2.slots (arg2 (iα.mono e2 r1) r2)).drop (os := [])) fun u g3 h3 l3 r3 => q u (f x y) g3 h3 ⟨x, y, p1, p2, rfl⟩ (s2.le l3) (e1.trans (e2.trans l3.gg)) r3
    cases hv; cases hw
    exact z
theorem ew_pair {P : α → Prop} {P' : β → Prop} (ha : EvW ta env os P) (hb : EvW tb env os P') : EvW (tTup (tCons ta (tCons tb tNil))) env os (fun z : α × β => P z.1 ∧ P' z.2) := .mk fun {b g h σ os2 Q} s q =>
  ha.run s fun v x g1 h1 p1 s1 e1 r1 => hb.run s1 fun w y g2 h2 p2 s2 e2 r2 => by
    refine ⟨(by decide : 2 ≤ sizeLine), fun p hp => ?_⟩
    have le := Le.laid s2.gh hp (o := .tup [v, w])
    exact q _ (x, y) _ _ ⟨p1, p2⟩ (s2.le le) (e1.trans (e2.trans le.gg)) ⟨p, v, w, rfl, upd_same, iα.mono (e2.trans le.gg) r1, iβ.mono le.gg r2⟩
/-! ### tests -/
theorem ewt_test {P : Bool → Prop} (ha : EvW ta env os P) : EvTW (tTest ta) env os P := .mk fun {b g h σ os2 Q} s q =>
  ha.run s fun v x g1 h1 p1 s1 e1 r1 => ⟨x, r1, q _ _ _ p1 s1 e1⟩
theorem ewt_B {P : Bool → Prop} (ha : EvW ta env os P) : EvTW (tB ta) env os P := .mk fun {b g h σ os2 Q} s q =>
  ha.run s fun v x g1 h1 p1 s1 e1 r1 => ⟨x, r1, q _ _ _ p1 s1 e1⟩
theorem ewt_any {P : Bool → Prop} (h : EvTW tt env os P) : EvTW tt env os (fun _ => True) := h.imp fun _ _ => trivial
theorem ewt_and (h1 : EvTW t env os fun _ => True) (h2 : EvTW u env os fun _ => True) : EvTW (tAnd t u) env os (fun _ => True) := .mk fun {b g h σ os2 Q} s q => h1.run s fun c g1 h' _ s1 e1 => by
  cases c with
  | true => exact h2.run s1 fun d g2 h2 _ s2 e2 => q d _ _ trivial s2 (e1.trans e2)
  | false => exact q _ _ _ trivial s1 e1
theorem ewt_or (h1 : EvTW t env os fun _ => True) (h2 : EvTW u env os fun _ => True) : EvTW (tOr t u) env os (fun _ => True) := .mk fun {b g h σ os2 Q} s q => h1.run s fun c g1 h' _ s1 e1 => by
  cases c with
  | true => exact q _ _ _ trivial s1 e1
  | false => exact h2.run s1 fun d g2 h2 _ s2 e2 => q d _ _ trivial s2 (e1.trans e2)
theorem ewt_not (h1 : EvTW t env os fun _ => True) : EvTW (tNot t) env os (fun _ => True) := .mk fun {b g h σ os2 Q} s q => h1.run s fun c g1 h' _ s1 e1 => q _ _ _ trivial s1 e1
theorem ew_if {P : α → Prop} (hc : EvTW tt env os fun _ => True) (ha : EvW ta env os P) (hb : EvW tb env os P) : EvW (tIf tt ta tb) env os P := .mk fun {b g h σ os2 Q} s q => hc.run s fun c g1 h1 _ s1 e1 => by
  cases c with
  | true => exact ha.run s1 fun v x g2 h2 p s2 e2 r => q v x g2 h2 p s2 (e1.trans e2) r
  | false => exact hb.run s1 fun v x g2 h2 p s2 e2 r => q v x g2 h2 p s2 (e1.trans e2) r
/-! ### arguments, calls -/
theorem eaw_nil : EvAW tNil env os (fun xs => xs = ([] : List (Slot K))) := .mk fun {b g h σ os2 Q} s q => q [] [] g h rfl s (Same.refl _) .nil
theorem eaw_cons {P : α → Prop} {PX : List (Slot K) → Prop} {ts : TA} (ha : EvW ta env os P) (hr : EvAW ts env os PX) : EvAW (tCons ta ts) env os (fun ys => ∃ x xs, P x ∧ PX xs ∧ ys = sv x :: xs) := .mk fun {b g h σ os2 Q} s q =>
  ha.run s fun v x g1 h1 p1 s1 e1 r1 => hr.run s1 fun vs xs g2 h2 p2 s2 e2 r2 => q _ (sv x :: xs) _ _ ⟨x, xs, p1, p2, rfl⟩ s2 (e1.trans e2) (.cons ⟨v, rfl, iα.mono e2 r1⟩ r2)
theorem EvA.w {ts : TA} {xs : List (Slot K)} (e : EvA ts env os xs) : EvAW ts env os (fun ys => ys = xs) := .mk fun {b g h σ os2 Q} s q =>
  e s.drop fun vs g' h' l r => q vs xs g' h' rfl (s.le l) l.gg r
/-- a call of a def that changes nothing, with arguments known in part -/
theorem ew_call {A : List (Slot K) → (γ → Prop) → Prop} {PX : List (Slot K) → Prop} {P : γ → Prop} {E : XK} {ts : TA} (h : EvAW ts env os PX) (hA : ∀ xs, PX xs → A xs P) : EvW (tCall (SpR K A) [] E ts) env os P := .mk fun {b g h' σ os2 Q} s q =>
  h.run s fun vs xs g1 h1 p1 s1 e1 r1 => ⟨g1, xs, P, hA xs p1, s1.gh, by rw [List.append_nil]; exact r1, fun v z g2 h2 hz l2 r2 => q v z g2 h2 hz (s1.le l2) (e1.trans l2.gg) r2⟩
/-- a def that changes what it is handed: A says which arguments and objects it takes, and what is wanted of the answer and the objects behind it -/
def SpW (K : PySem.W.Frag) {γ : Type} [iγ : Py K γ] (A : List (Slot K) → Os → (γ → Os → Prop) → Prop) : Sp := fun vs H Q _ =>
  ∃ (g : Hp) (xs : List (Slot K)) (os : Os) (P : γ → Os → Prop), A xs os P ∧ Same g H ∧ Ow g H os ∧ Args g vs xs ∧
    ∀ v z os' g' H', P z os' → (∀ p ∈ os', p.1 ∈ os.map (·.1) ∨ H p.1 = none) → LeW (os.map (·.1)) g H g' H' → Ow g' H' os' → iγ.R g' v z → Q v H'
/-- a call that leaves its objects as they are told -/
theorem ew_callW {A : List (Slot K) → Os → (γ → Os → Prop) → Prop} {PX : List (Slot K) → Prop} {P : γ → Prop} {E : XK} {ts : TA} (osc : Os) (h : EvAW ts env os PX) (hc : ∀ p ∈ osc, p ∈ os) (nd : osc.length ≤ 1 ∨ osc = os)
    (hA : ∀ xs, PX xs → A xs osc (fun z os' => P z ∧ os' = osc)) : EvW (tCall (SpW K A) [] E ts) env os P := .mk fun {b g h' σ os2 Q} s q =>
  h.run s fun vs xs g1 h1 p1 s1 e1 r1 => by
    have nd' : (osc.map (·.1)).Nodup := by
      rcases nd with n | n
      · match osc, n with
        | [], _ => simp
        | [p], _ => simp
      · subst n; exact (S0.drop s1).nd
    have hc' : ∀ p ∈ osc, p ∈ os ++ os2 := fun p hp => List.mem_append_left _ (hc p hp)
    refine ⟨g1, xs, osc, _, hA xs p1, s1.gh, s1.ow.sub hc' nd', by rw [List.append_nil]; exact r1, fun v z os' g2 h2 hz _ l2 o2 r2 => ?_⟩
    obtain ⟨hz, rfl⟩ := hz
    exact q v z g2 h2 hz (s1.afterSame hc' l2 o2) (e1.trans l2.gg) r2
/-! ### statements -/
theorem st_setW {P : α → Prop} (s : S0 b g h σ env os) (e : EvW te env os P) (k : ∀ x, P x → ∀ v g' h', S0 b g' h' (σ.set i (some v)) (env.set i (sv x)) os → D.nx (σ.set i (some v)) h') : tAsg te (gName i) D σ h :=
  e.go s fun v x g' h' p s' _ r => k x p v g' h' (s'.set ⟨v, rfl, r⟩)
theorem st_setNW {P : List α → Prop} (s : S0 b g h σ env os) (e : EvNW te env os P) (k : ∀ xs, P xs → ∀ l g' h', S0 b g' h' (σ.set i (some (.ref l))) (env.set i (sv (V.ref l))) (os ++ [(l, Own.lst K xs)]) → D.nx (σ.set i (some (.ref l))) h') : tAsg te (gName i) D σ h :=
  e.go s fun l vs xs g1 h1 p s1 _ hl r1 => k xs p l g1 _ ((s1.add (w := Own.lst K xs) hl ⟨vs, rfl, r1⟩).set ⟨_, rfl, rfl⟩)
theorem st_dropW {P : α → Prop} (s : S0 b g h σ env os) (e : EvW te env os P) (k : ∀ x, P x → ∀ g' h', S0 b g' h' σ env os → D.nx σ h') : tDrop te D σ h :=
  e.go s fun v x g' h' p s' _ _ => k x p g' h' s'
theorem st_retW {P : α → Prop} (s : S0 b g h σ env os) (e : EvW te env os P) (k : ∀ x, P x → ∀ v g' h', S0 b g' h' σ env os → iα.R g' v x → D.rt v h') : tRet te D σ h :=
  e.go s fun v x g' h' p s' _ r => k x p v g' h' s' r
theorem st_ifW {P : Bool → Prop} (s : S0 b g h σ env os) (e : EvTW t env os P) (k1 : P true → ∀ g' h', S0 b g' h' σ env os → t1 D σ h') (k2 : P false → ∀ g' h', S0 b g' h' σ env os → t2 D σ h') : tIfS t t1 t2 D σ h :=
  e.go s fun c g' h' p s' _ => by
    cases c with
    | true => exact k1 p g' h' s'
    | false => exact k2 p g' h' s'
/-- for name in range(e): e once, then as range(n) -/
theorem st_rangeW {tb : TS} {gt : TG} {P : Int → Prop} (s : S0 b g h σ env os) (e : EvW te env os P) (k : ∀ n, P n → ∀ g' h', S0 b g' h' σ env os → tFor (iRng1 (tCons (tC (.int n)) tNil)) gt tb D σ h') : tFor (iRng1 (tCons te tNil)) gt tb D σ h :=
  e.go s fun v n g' h' p s' _ r => by
    cases r
    exact k n p g' h' s'
theorem st_appendW {m : Nat} {l : Addr} {xs : List α} {P : α → Prop} (s : S0 b g h σ env os) (hx : env[i]? = some (.val V inferInstance (V.ref l))) (ho : os[m]? = some (l, Own.lst K xs)) (hl : xs.length < sizeLine) (e : EvW te env os P)
    (k : ∀ x, P x → ∀ g' h', S0 b g' h' σ env (os.set m (l, Own.lst K (xs ++ [x]))) → D.nx σ h') : tDrop (tBM K "list" rAppend (tVar i) (tCons te tNil)) D σ h := by
  unfold tDrop tBM
  refine ev_var hx s fun v g1 h1 l1 r1 => ?_
  cases r1
  have s1 := s.le l1
  obtain ⟨n1, o, e1, vs, rfl, p1⟩ := s1.own _ (List.mem_of_getElem? ho)
  refine ⟨.inl ⟨rfl, vs, SqL.of e1⟩, e.go s1 fun v x g2 h2 px s2 l2 r2 => ?_⟩
  obtain ⟨n2, o, e2, ws, rfl, p2⟩ := s2.own _ (List.mem_of_getElem? ho)
  exact ⟨l, ws, v, rfl, rfl, e2, by rw [p2.length]; exact hl, k x px g2 _ (s2.put (w' := Own.lst K (xs ++ [x])) ho ⟨_, rfl, paired_append p2 (.cons r2 .nil)⟩)⟩
/-- x[k] = e on an owned list -/
theorem st_setOW {m : Nat} {l : Addr} {xs : List α} {P : α → Prop} {PI : Int → Prop} (s : S0 b g h σ env os) (e : EvW te env os P) (hx : env[i]? = some (.val V inferInstance (V.ref l))) (ho : os[m]? = some (l, Own.lst K xs)) (hb : EvW tb env os PI) (hi : ∀ n, PI n → 0 ≤ n ∧ n < xs.length)
    (k : ∀ x n, P x → PI n → ∀ g' h', S0 b g' h' σ env (os.set m (l, Own.lst K (xs.set n.toNat x))) → D.nx σ h') : tAsg te (gSub (tVar i) tb rSetL) D σ h :=
  e.go s fun v x g1 h1' px s1 l1 r1 => ev_var hx s1 fun w g2 h2 l2 r2 => hb.go (s1.le l2) fun u n g3 h3 pn s3 l3 r3 => by
    cases r2
    obtain ⟨vs, e', p⟩ := own_seq s3 ho
    exact ⟨l, vs, n, n.toNat, rfl, r3, e', ixN_eq (hi n pn).1 (by rw [p.length]; exact (hi n pn).2), k x n px pn g3 _ (s3.put (w' := Own.lst K (xs.set n.toNat x)) ho ⟨_, rfl, paired_set (iα.mono (l2.gg.trans l3) r1) _ p⟩)⟩
end
end Lw
/-! Comprehensions whose items change owned objects; the promise of a def that changes its objects; owned dicts and mixed lists. -/
namespace Lw
open PySem PySem.Spec PyProof.Rows L2
section
variable {K : PySem.W.Frag}
variable {env : Env K} {os osc os' osz : Os} {ta tb te tx tl : TE} {tt t u : TT} {α β γ : Type} [iα : Py K α] [iβ : Py K β] [iγ : Py K γ]
variable {b : Bs} {g h g' h' : Hp} {σ : L2.St} {D : Ends} {t1 t2 : TS} {i j : Nat}
/-- what such a comprehension's block keeps -/
structure LwI (K : PySem.W.Frag) {β : Type} [iβ : Py K β] (env : Env K) (os : Os) (b : Bs) (ga ha : Hp) (σ : L2.St) (vs : List Nat) (D : Addr) (acc : List β) (H : Hp) : Prop where
  ex : ∃ g', S0 b g' H (L2.wipe σ vs) (wiped env vs) (os ++ [(D, Own.lst K acc)]) ∧ Same ga g'
  dn : ha D = none
  bn : b.h D = none
theorem LwI.start {ga ha : Hp} {Dd : Addr} (s : S0 b ga ha σ env os) (hd : ha Dd = none) (vs : List Nat) : LwI K (β := β) env os b ga ha σ vs Dd [] (upd ha Dd (.lst [])) where
  ex := ⟨ga, (s.wipe.add (w := Own.lst K ([] : List β)) hd ⟨[], rfl, .nil⟩), Same.refl _⟩
  dn := hd
  bn := by
    cases w : b.h Dd with
    | none => rfl
    | some u => exact absurd hd (s.th _ (some_ne_none w))
theorem LwI.done {ga ha H : Hp} {vs : List Nat} {Dd : Addr} {acc : List β} {Q : VK} (s0 : S0 b ga ha σ env os) (I : LwI K env os b ga ha σ vs Dd acc H)
    (q : ∀ l ws g' h', S0 b g' h' σ env os → Same ga g' → h' l = none → Paired (iβ.R g') ws acc → Q (.ref l) (upd h' l (.lst ws))) : Q (.ref Dd) H := by
  obtain ⟨g', s, e1⟩ := I.ex
  obtain ⟨nD, o, eD, ws, rfl, p⟩ := s.own (Dd, Own.lst K acc) (by simp)
  have hH : H = upd (fun a => if a = Dd then none else H a) Dd (.lst ws) := by
    funext a
    by_cases ha' : a = Dd
    · subst ha'; rw [upd_same]; exact eD
    · rw [upd_ne ha']; exact (if_neg ha').symm
  have sd := s.drop
  have nin : ∀ p ∈ os, p.1 ≠ Dd := fun p hp z => by
    have := s.nd
    rw [List.map_append] at this
    exact (List.nodup_append.mp this).2.2 p.1 (List.mem_map_of_mem hp) Dd (by simp) z
  have at_ : ∀ {a : Addr}, a ≠ Dd → (fun a => if a = Dd then none else H a) a = H a := fun hz => if_neg hz
  rw [hH]
  refine q Dd ws g' _ ⟨fun a o z => ?_, s0.len, fun n t e => Slot.ok_mono e1 (s0.sl n t e), fun p hp => ?_, sd.nd, sd.gg, fun a o n e => ?_, fun a n => ?_, sd.new, sd.ol⟩ e1 (if_pos rfl) p
  · have : a ≠ Dd := fun w => by rw [w, show g' Dd = none from nD] at z; cases z
    show (if a = Dd then none else H a) = some o
    rw [if_neg this]; exact sd.gh a o z
  · obtain ⟨n1, u, e, r⟩ := sd.own p hp
    exact ⟨n1, u, by show (if p.1 = Dd then none else H p.1) = some u; rw [if_neg (nin p hp)]; exact e, r⟩
  · have : a ≠ Dd := fun w => by rw [w, I.bn] at e; cases e
    show (if a = Dd then none else H a) = some o
    rw [if_neg this]; exact sd.fr a o n e
  · have : a ≠ Dd := fun w => n (by rw [w, I.bn])
    show (if a = Dd then none else H a) ≠ none
    rw [if_neg this]; exact sd.th a n
theorem LwI.turn {ga ha H : Hp} {vs : List Nat} {Dd : Addr} {acc : List β} {gt : TG} {f : Env K → α → Env K} {v : V} {x : α} {c : Bool} {P : β → Prop} {Nx : Hp → Prop} (I : LwI K env os b ga ha σ vs Dd acc H) (hg : TgtF (K := K) gt vs f)
    (rx : ∀ g', Same ga g' → iα.R g' v x) (ht : EvT tt (f (wiped env vs) x) os c) (he : c = true → EvW te (f (wiped env vs) x) os P) (hl : acc.length < sizeLine) (hw : L2.wipe (L2.wipe σ vs) vs = L2.wipe σ vs)
    (hN : ∀ y H', (c = true → P y) → LwI K env os b ga ha σ vs Dd (if c = true then acc ++ [y] else acc) H' → Nx H') (d : β) :
    gt v (L2.wipe σ vs) H fun σ2 H2 => L2.wipe σ2 vs = L2.wipe σ vs ∧ tt σ2 H2 fun b H3 => if b = true then te σ2 H3 fun y H4 => ∃ acc, H4 Dd = some (.lst acc) ∧ acc.length < sizeLine ∧ Nx (upd H4 Dd (.lst (acc ++ [y]))) else Nx H3 := by
  obtain ⟨g', s, e1⟩ := I.ex
  refine hg s (rx g' e1) fun σ2 w2 s2 => ⟨w2.trans hw, ht s2.drop fun g3 h3 l3 => ?_⟩
  cases c with
  | false => exact hN d h3 (fun z => nomatch z) ⟨⟨g3, s.le l3, e1.trans l3.gg⟩, I.dn, I.bn⟩
  | true =>
    refine (he rfl).run (s2.le l3) fun w y g4 h4 py s4 e4 r4 => ?_
    obtain ⟨nD, o, eD, ws, rfl, p⟩ := s4.own (Dd, Own.lst K acc) (by simp)
    refine ⟨ws, eD, by rw [p.length]; exact hl, hN y _ (fun _ => py) ⟨⟨g4, ?_, (e1.trans l3.gg).trans e4⟩, I.dn, I.bn⟩⟩
    have s5 : S0 b g4 h4 (L2.wipe σ vs) (wiped env vs) (os ++ [(Dd, Own.lst K acc)]) :=
      { s4 with len := s.len, sl := fun n t e => Slot.ok_mono (l3.gg.trans e4) (s.sl n t e) }
    have := s5.put (w' := Own.lst K (acc ++ [y])) (o := .lst (ws ++ [w])) last_at ⟨_, rfl, paired_append p (.cons r4 .nil)⟩
    rw [last_set] at this
    exact this
theorem filter_take1 {p : α → Bool} {xs : List α} {n : Nat} {x : α} (h : xs[n]? = some x) : (xs.take (n + 1)).filter p = (xs.take n).filter p ++ if p x = true then [x] else [] := by
  rw [List.take_add_one, h, List.filter_append]
  cases hp : p x <;> simp [hp]
theorem paired_snoc {P : α → β → Prop} {p : α → Bool} {xs : List α} {n : Nat} {x : α} {acc : List β} {y : β} (h : xs[n]? = some x) (pr : Paired (fun y x => P x y) acc ((xs.take n).filter p)) (hy : p x = true → P x y) :
    Paired (fun y x => P x y) (if p x = true then acc ++ [y] else acc) ((xs.take (n + 1)).filter p) := by
  rw [filter_take1 h]
  by_cases e : p x = true
  · rw [if_pos e, if_pos e]; exact paired_append pr (.cons (hy e) .nil)
  · rw [if_neg e, if_neg e, List.append_nil]; exact pr
theorem small_filter {p : α → Bool} {xs : List α} {n : Nat} {x : α} {acc : List β} {F : β → α → Prop} (h : xs[n]? = some x) (pr : Paired F acc ((xs.take n).filter p)) (hl : xs.length ≤ 1000000) : acc.length < sizeLine := by
  rw [pr.length]
  refine Nat.lt_of_le_of_lt (Nat.le_trans (List.length_filter_le _ _) (List.length_take_le _ _)) ?_
  exact Nat.lt_of_le_of_lt (by
    have := (List.getElem?_eq_some_iff.mp h).1
    omega) (by decide : 1000000 < sizeLine)
/-- [e for target in a list of xs if ..], e's value known in part -/
theorem ew_lcL {xs : List α} {vs : List Nat} {gt : TG} {f : Env K → α → Env K} {p : α → Bool} {P : α → β → Prop} (d : β) (hg : TgtF (K := K) gt vs f) (hx : Ev tl env os xs) (ht : ∀ x ∈ xs, EvT tt (f (wiped env vs) x) os (p x))
    (he : ∀ x ∈ xs, p x = true → EvW te (f (wiped env vs) x) os (P x)) (hl : xs.length ≤ 1000000) : EvNW (tLc (iList K tl) gt tt te vs) env os (fun ys => Paired (fun y x => P x y) ys (xs.filter p)) := .mk fun {b g h σ os2 Q} s q => by
  refine hx s.drop fun v g1 h1 l1 r1 => ?_
  obtain ⟨a, us, rfl, hq, hp⟩ := r1
  have s1 := s.le l1
  refine ⟨a, rfl, ⟨us, l1.gh.seq hq⟩, fun Dd hD => lc_list (K := K) (a := a) (xs := us) (fun n H => ∃ acc : List β, Paired (fun y x => P x y) acc ((xs.take n).filter p) ∧ LwI K env (os ++ os2) b g1 h1 σ vs Dd acc H) ⟨[], .nil, LwI.start s1 hD vs⟩ (fun n H _ ⟨acc, _, I⟩ => ?_) (fun n x H hn ⟨acc, pr, I⟩ => ?_) (fun H ⟨acc, pr, I⟩ => ?_)⟩
  · obtain ⟨g', s', e1⟩ := I.ex
    exact (e1.trans s'.gh).seq hq
  · obtain ⟨y, hy, ry⟩ := paired_getL hp hn
    have hm := List.mem_of_getElem? hy
    refine I.turn (P := P y) hg (fun g' e => iα.mono e ry) ?_ ?_ (small_filter hy pr hl) wipe_wipe (fun z H' pz I' => ⟨_, paired_snoc hy pr pz, I'⟩) d
    · exact fun {b g h σ Q} s q => ht y hm s.drop fun g' h' l => q g' h' l
    · exact fun hc => .mk fun {b g h σ os3 Q} s q => (he y hm hc).run (os2 := os2 ++ os3) (by rw [← List.append_assoc]; exact s) fun v x g' h' px s' e r => q v x g' h' px (by rw [List.append_assoc]; exact s') e r
  · rw [hp.length, List.take_length] at pr
    exact I.done s1 fun l ws g' h' s' e hn' r => q l ws acc g' h' pr s' (l1.gg.trans e) hn' r
/-- .. of range(n) -/
theorem ew_lcR {PN : Int → Prop} {P : Int → β → Prop} (d : β) (hx : EvW tl env os PN) (hn : ∀ n, PN n → n ≤ 1000000 ∧ -(2 ^ 62) ≤ n)
    (he : ∀ n, PN n → ∀ x, 0 ≤ x → x < n → EvW te ((wiped env [i]).set i (sv x)) os (P x)) : EvNW (tLc (iRng1 (tCons tl tNil)) (gName i) tYes te [i]) env os (fun ys => ∃ n, PN n ∧ Paired (fun y x => P x y) ys (upto n.toNat)) := .mk fun {b g h σ os2 Q} s q => by
  refine hx.run s fun v n g1 h1 pn s1 e1 r1 => ?_
  cases r1
  have hl := hn n pn
  refine ⟨n, rfl, hl.2, by omega, fun Dd hD => lc_range (lo := 0) (n := n.toNat) (fun k H => ∃ acc : List β, Paired (fun y x => P x y) acc (((upto n.toNat).take k).filter fun _ => true) ∧ LwI K env (os ++ os2) b g1 h1 σ [i] Dd acc H) ⟨[], .nil, LwI.start s1 hD [i]⟩ (fun k H hk ⟨acc, pr, I⟩ => ?_) (fun H ⟨acc, pr, I⟩ => ?_)⟩
  · have hy := upto_get hk
    have hm := mem_upto.mp (List.mem_of_getElem? hy)
    refine I.turn (P := P k) (x := (k : Int)) (tgt_name (α := Int)) (fun g' e => ?_) et_yes ?_ (small_filter hy pr (by rw [upto_len]; omega)) wipe_wipe (fun z H' pz I' => ⟨_, paired_snoc (p := fun _ => true) hy pr pz, I'⟩) d
    · show V.int (0 + (k : Int)) = V.int (k : Int)
      rw [Int.zero_add]
    · exact fun hc => .mk fun {b g h σ os3 Q} s q => (he n pn k hm.1 (by omega)).run (os2 := os2 ++ os3) (by rw [← List.append_assoc]; exact s) fun v x g' h' px s' e r => q v x g' h' px (by rw [List.append_assoc]; exact s') e r
  · rw [List.take_of_length_le (by rw [upto_len]; exact Nat.le_refl _), List.filter_eq_self.mpr (fun _ _ => rfl)] at pr
    exact I.done s1 fun l ws g' h' s' e hn' r => q l ws acc g' h' ⟨n, pn, pr⟩ s' (e1.trans e) hn' r
theorem paired_all {F : α → β → Prop} {xs : List α} {ys : List β} (h : Paired F xs ys) : ∀ x ∈ xs, ∃ y ∈ ys, F x y := by
  induction h with
  | nil => intro x hx; cases hx
  | cons r _ ih =>
    intro x hx
    rcases List.mem_cons.mp hx with rfl | hx
    · exact ⟨_, List.mem_cons_self, r⟩
    · obtain ⟨y, hy, q⟩ := ih x hx
      exact ⟨y, List.mem_cons_of_mem _ hy, q⟩
/-! ### promises -/
theorem S0.startW {N : List Str} {vs : List V} {xs : List (Slot K)} {H : Hp} (gh : Same g H) (r : Args g vs xs) (o : Ow g H os) : S0 ⟨os.map (·.1), g, H⟩ g H (L2.start N vs) (xs ++ List.replicate (N.length - xs.length) .unk) os where
  gh := gh
  len := (S0.start (N := N) gh r).len
  sl := (S0.start (N := N) gh r).sl
  own := o.own
  nd := o.nd
  gg := Same.refl _
  fr := fun a o _ q => q
  th := fun a n => n
  new := fun a n _ => n
  ol := fun p hp => .inr (List.mem_map_of_mem hp)
end
section
variable {fa : List He.Fa} {fn : List He.DefD} {ex : PySem.W.Frag → Bool} {P : Program} {w : World} {K : PySem.W.Frag} {mg : Str → Option Value} {base : Heap} {γ : Type} [iγ : Py K γ]
/-- a def that changes its objects keeps its promise -/
theorem okWD {x qual : Str} {st : Stmt} {f : Addr} {fd : FuncData} {N ps : List Str} {k : Nat} {A : List (Slot K) → Os → (γ → Os → Prop) → Prop} {dvs : List V} {kws : List (Str × V)} (F : FunD K x qual (defArgs st) (defBody st) (defScope st) dvs kws f fd) (S : FnScope N ps (defScope st)) (hlen : ∀ xs os P', A xs os P' → xs.length = ps.length)
    (hb : ∀ (cdv : Value) (Ar : Around) (outer : List PySem.Env) (s : Shared) (H : Hp) (E : XK), Room k (Ar.deeper (envOfC qual (defScope st) s.heap.objs.size f cdv)) → ∀ (xs : List (Slot K)) (os : Os) (P' : γ → Os → Prop), A xs os P' →
      ∃ t, PSs (cxOf CX0 P w K mg base N qual (defScope st) f cdv Ar outer s H E).nox (defBody st) t ∧
        ∀ (g : Hp) (σ : L2.St) (Q : VK), S0 ⟨os.map (·.1), g, H⟩ g H σ (xs ++ List.replicate (N.length - xs.length) .unk) os →
          (∀ v z g' h' σ' env' os' os2, P' z os' → (∀ p ∈ os', p ∈ os2) → S0 ⟨os.map (·.1), g, H⟩ g' h' σ' (env' : Env K) os2 → (os'.map (·.1)).Nodup → iγ.R g' v z → Q v h') → t { nx := fun _ H' => Q .non H', rt := Q } σ H) : FnOk P w K mg base CX0 (k + 1) f fd ps (SpW K A) := by
  refine F.ok S (fun vs H Q E h => ?_) (fun cdv Ar outer s H vs Q E hr h => ?_)
  · obtain ⟨g, xs, os, P', hA, _, _, r, _⟩ := h
    rw [args_len r]
    exact hlen xs os P' hA
  · obtain ⟨g, xs, os, P', hA, gh, o, r, q⟩ := h
    obtain ⟨t, ht, hq⟩ := hb cdv Ar outer s H E hr xs os P' hA
    refine ⟨t, ht.nox, hq g _ Q (S0.startW gh r o) fun v z g' h' σ' env' os' os2 hz hs s' nd rz => q v z os' g' h' hz (fun p hp => ?_) ⟨s'.gg, s'.fr, s'.gh, s'.th, s'.new⟩ (s'.ow.sub hs nd) rz⟩
    rcases s'.ol p (hs p hp) with w | w
    · exact .inr w
    · exact .inl w
end
end Lw
/-! Raising, catching over told states. -/
namespace Lw
open PySem PySem.Spec PyProof.Rows L2
/-- an exception's fields -/
inductive FsR {K : PySem.W.Frag} (g : Hp) : List (Str × V) → List (Str × Slot K) → Prop where
  | nil : FsR g [] []
  | cons {a : Str × V} {c : Str × Slot K} {vs : List (Str × V)} {fs : List (Str × Slot K)} : (a.1 = c.1 ∧ c.2.ok g (some a.2)) → FsR g vs fs → FsR g (a :: vs) (c :: fs)
section
variable {K : PySem.W.Frag} {env : Env K} {os : Os} {ta tb te tx : TE} {t u : TT} {α β γ : Type} [iα : Py K α] [iβ : Py K β] [iγ : Py K γ]
variable {b : Bs} {g h g' h' : Hp} {σ : L2.St} {D : Ends} {t1 t2 : TS} {i j : Nat}
theorem fsr_snoc {vs : List (Str × V)} {fs : List (Str × Slot K)} {a : Str × V} {c : Str × Slot K} (p : FsR g vs fs) (r : a.1 = c.1 ∧ c.2.ok g (some a.2)) : FsR g (vs ++ [a]) (fs ++ [c]) := by
  induction p with
  | nil => exact .cons r .nil
  | cons q _ ih => exact .cons q ih
theorem fsr_mono {vs : List (Str × V)} {fs : List (Str × Slot K)} (e : Same g g') (p : FsR g vs fs) : FsR g' vs fs := by
  induction p with
  | nil => exact .nil
  | cons q _ ih => exact .cons ⟨q.1, Slot.ok_mono e q.2⟩ ih
theorem fsr_zip {vs : List V} {xs : List (Slot K)} (r : Args g vs xs) : ∀ fs : List Str, FsR g (fs.zip vs) (fs.zip xs) := by
  induction r with
  | nil => intro fs; cases fs <;> exact .nil
  | cons q _ ih =>
    intro fs
    cases fs with
    | nil => exact .nil
    | cons f fs => exact .cons ⟨rfl, q⟩ (ih fs)
theorem fsr_rev {vs : List (Str × V)} {fs : List (Str × Slot K)} (p : FsR g vs fs) : FsR g vs.reverse fs.reverse := by
  induction p with
  | nil => exact .nil
  | cons q _ ih => rw [List.reverse_cons, List.reverse_cons]; exact fsr_snoc ih q
/-! ### raise X(e, ..) -/
theorem pmk_x {X : Cx} {x : Str} {fs : List Str} {e : Expr} {es : List Expr} {ta : TA} {p pos : Pos} (D : ExcD X.prog X.w X.K X.mg X.base x fs) (hr : Room 2 X.A) (hg : Gl X x) (ha : PA X (e :: es) ta) (hdb : (x == ("__debug__" : Str)) = false := by decide)
    (he : starEach (e :: es) X.env = (false, eval e X.env) :: starEach es X.env := by rfl) (hpl : (backTo pos (starEach es X.env)).any (·.1) = false := by rfl) : L2N.PMk X (.Call (.Name x p) (e :: es) [] pos) (tMkO (inC X.K x) (spIni (inC X.K x) fs) [] ta) := by
  obtain ⟨fd, iC, tI, hb, F1⟩ := D.ini
  exact pmk_oexN D.T iC tI F1 hr hb pass0 hg D.gC ha hdb he hpl
theorem st_mk {C : Addr} {fs : List Str} {ts : TA} {xs : List (Slot K)} {Q : XK} (s : S0 b g h σ env os) (e : EvA ts env os xs) (hl : xs.length = fs.length) (hz : fs.length ≤ 100)
    (k : ∀ vs d g' h', S0 b g' h' σ env os → h' d = none → FsR g' vs (fs.zip xs).reverse → Q (.ref C) (some d) (upd h' d (.xd vs))) : tMkO C (spIni C fs) [] ts σ h Q :=
  e s fun vs g1 h1 l1 r1 => by
    have hv : vs.length = fs.length := by rw [args_len r1]; exact hl
    refine ⟨by omega, fun a ha => ⟨a, vs, by rw [List.append_nil], hv, upd_same, fun dx hdx hne => ⟨rfl, dx, (fs.zip vs).reverse, upd_same, ?_, ?_, ?_⟩⟩⟩
    · rw [upd_ne hne, upd_same]
    · rw [upd_ne hne] at hdx; exact hdx
    · rw [upd_ne hne] at hdx
      have e : upd (del (upd (upd (upd h1 a (exo a C none)) dx (exd dx (fs.zip vs).reverse)) a (exo a C (some dx))) a) dx (.xd (fs.zip vs).reverse) = upd h1 dx (.xd (fs.zip vs).reverse) := by
        funext c
        by_cases h1' : c = dx
        · subst h1'; rw [upd_same, upd_same]
        · rw [upd_ne h1', upd_ne h1']
          by_cases h2 : c = a
          · subst h2; rw [del_same, ha]
          · rw [del_ne h2, upd_ne h2, upd_ne h1', upd_ne h2]
      rw [e]
      exact k _ dx g1 h1 (s.le l1) hdx (fsr_rev (fsr_zip r1 fs))
/-! ### promises of defs that may raise -/
/-- a def that changes nothing, answers or raises: A says which arguments it takes, what is wanted of the answer and of the exception (its class, its fields) -/
def SpE (K : PySem.W.Frag) {γ : Type} [iγ : Py K γ] (A : List (Slot K) → (γ → Prop) → (Addr → List (Str × Slot K) → Prop) → Prop) : Sp := fun vs H Q E =>
  ∃ (g : Hp) (xs : List (Slot K)) (P : γ → Prop) (PE : Addr → List (Str × Slot K) → Prop), A xs P PE ∧ Same g H ∧ Args g vs xs ∧ (∀ v z g' H', P z → Le g H g' H' → iγ.R g' v z → Q v H') ∧
    ∀ C fs d ws g' H', PE C fs → Le g H g' H' → H' d = none → FsR g' ws fs → E (.ref C) (some d) (upd H' d (.xd ws))
end
section
variable {fa : List He.Fa} {fn : List He.DefD} {ex : PySem.W.Frag → Bool} {P : Program} {w : World} {K : PySem.W.Frag} {mg : Str → Option Value} {base : Heap} {γ : Type} [iγ : Py K γ]
theorem okED {x qual : Str} {st : Stmt} {f : Addr} {fd : FuncData} {N ps : List Str} {k : Nat} {A : List (Slot K) → (γ → Prop) → (Addr → List (Str × Slot K) → Prop) → Prop} {dvs : List V} {kws : List (Str × V)} (F : FunD K x qual (defArgs st) (defBody st) (defScope st) dvs kws f fd) (S : FnScope N ps (defScope st)) (hlen : ∀ xs P' PE, A xs P' PE → xs.length = ps.length)
    (hb : ∀ (cdv : Value) (Ar : Around) (outer : List PySem.Env) (s : Shared) (H : Hp) (E : XK), Room k (Ar.deeper (envOfC qual (defScope st) s.heap.objs.size f cdv)) → ∀ (xs : List (Slot K)) (P' : γ → Prop) (PE : Addr → List (Str × Slot K) → Prop), A xs P' PE →
      ∃ t, PSs (cxOf (L2N.CX P w) P w K mg base N qual (defScope st) f cdv Ar outer s H E) (defBody st) t ∧
        ∀ (g : Hp) (σ : L2.St) (Q : VK), S0 ⟨[], g, H⟩ g H σ (xs ++ List.replicate (N.length - xs.length) .unk) [] →
          (∀ v z g' h' σ' env' os', P' z → S0 ⟨[], g, H⟩ g' h' σ' (env' : Env K) os' → iγ.R g' v z → Q v h') →
          (∀ C fs d ws g' h' σ' env' os', PE C fs → S0 ⟨[], g, H⟩ g' h' σ' (env' : Env K) os' → h' d = none → FsR g' ws fs → E (.ref C) (some d) (upd h' d (.xd ws))) → t { nx := fun _ H' => Q .non H', rt := Q } σ H) : FnOk P w K mg base (L2N.CX P w) (k + 1) f fd ps (SpE K A) := by
  refine F.ok S (fun vs H Q E h => ?_) (fun cdv Ar outer s H vs Q E hr h => ?_)
  · obtain ⟨g, xs, P', PE, hA, _, r, _⟩ := h
    rw [args_len r]
    exact hlen xs P' PE hA
  · obtain ⟨g, xs, P', PE, hA, gh, r, q, qe⟩ := h
    obtain ⟨t, ht, hq⟩ := hb cdv Ar outer s H E hr xs P' PE hA
    exact ⟨t, ht, hq g _ Q (S0.start gh r) (fun v z g' h' σ' env' os' hz s' rz => q v z g' h' hz (s'.fin rfl) rz) fun C fs d ws g' h' σ' env' os' he s' hd hf => qe C fs d ws g' h' he (s'.fin rfl) hd hf⟩
/-- the def called x, that may raise, keeps the promise sp -/
def CalE (P : Program) (w : World) (K : PySem.W.Frag) (mg : Str → Option Value) (base : Heap) (x : Str) (k : Nat) (ps : List Str) (sp : Sp) : Prop :=
  ∃ f fd, mg x = some (.ref f) ∧ PySem.W.keepIn K (.ref f) = true ∧ Binds K fd ps [] ∧ FnOk P w K mg base (L2N.CX P w) k f fd ps sp
theorem Fx.calE (E : Fx fa fn ex K mg) (i j : Nat) {x : Str} {st : Stmt} {ps : List Str} {k : Nat} {sp : Sp} (hi : fn[i]? = some ⟨(x, none), x, x, defArgs st, defBody st, defScope st, [], []⟩) (hj : fa[j]? = some (.glo x))
    (hbi : ∀ (kV doc pm : Value) (an : Option Addr) (cdv ct : Value) (us : List Value), us.length = ps.length → bindArgs (PySem.W.fnOf x x (defArgs st) (defBody st) (defScope st) .none kV doc pm an cdv ct) ⟨us, []⟩ = pure (ps.zip us))
    (hf : ∀ f fd, FunD K x x (defArgs st) (defBody st) (defScope st) [] [] f fd → FnOk P w K mg base (L2N.CX P w) k f fd ps sp) : CalE P w K mg base x k ps sp := by
  obtain ⟨fd, F⟩ := E.d.def_ i hi
  exact ⟨_, fd, E.gref j hj, F.kp, F.bindsN hbi, hf _ fd F⟩
end
section
variable {X : Cx} {x : Str} {k : Nat} {ps : List Str} {sp : Sp} {e : Expr} {es : List Expr} {p pos : Pos} {t : TA}
/-- a call of such a def, what it raises leaves the caller too -/
theorem pe_cE {E : XK} {W : WX} (C : CalE X.prog X.w X.K X.mg X.base x k ps sp) (hr : Room k X.A) (tk : L2N.Takes X W) (hW : ∀ cls d σ H, E cls d H → W cls d σ H) (hg : Gl X x) (ha : PA X (e :: es) t) (hdb : (x == ("__debug__" : Str)) = false := by decide)
    (he : starEach (e :: es) X.env = (false, eval e X.env) :: starEach es X.env := by rfl) (hpl : (backTo pos (starEach es X.env)).any (·.1) = false := by rfl) : PE X (.Call (.Name x p) (e :: es) [] pos) (tCall sp [] E t) := by
  obtain ⟨f, fd, gm, kp, bi, ok⟩ := C
  exact pe_call ok hr hg gm kp bi .nil (L2N.passes_call tk hW) ha hdb he hpl
/-- .. in a try -/
theorem pe_cT {W : WX} (C : CalE X.prog X.w X.K X.mg X.base x k ps sp) (hr : Room k X.A) (tk : L2N.Takes X W) (hg : Gl X x) (ha : PA X (e :: es) t) (hdb : (x == ("__debug__" : Str)) = false := by decide)
    (he : starEach (e :: es) X.env = (false, eval e X.env) :: starEach es X.env := by rfl) (hpl : (backTo pos (starEach es X.env)).any (·.1) = false := by rfl) : PE X (.Call (.Name x p) (e :: es) [] pos) (tCallS sp (fun σ => WE W σ) t) := by
  obtain ⟨f, fd, gm, kp, bi, ok⟩ := C
  exact pe_callS ok hr hg gm kp bi (fun σ => L2N.passAt tk σ) ha hdb he hpl
end
end Lw
/-! Owned dicts and mixed lists; calls that change what they are handed. -/
namespace Lw
open PySem PySem.Spec PyProof.Rows L2
section
variable {K : PySem.W.Frag}
variable {env : Env K} {os osc os' osz rest : Os} {ta tb te tx tl : TE} {tt t u : TT} {α β γ : Type} [iα : Py K α] [iβ : Py K β] [iγ : Py K γ]
variable {b : Bs} {g h g' h' : Hp} {σ : L2.St} {D : Ends} {t1 t2 : TS} {i j m : Nat} {l : Addr}
theorem os_other (nd : (os.map (·.1)).Nodup) {k m : Nat} {p q : Addr × Own} (hp : os[k]? = some p) (hq : os[m]? = some q) (ne : k ≠ m) : p.1 ≠ q.1 := fun z => by
  have a1 : (os.map (·.1))[k]? = some p.1 := by rw [List.getElem?_map, hp]; rfl
  have a2 : (os.map (·.1))[m]? = some p.1 := by rw [List.getElem?_map, hq, z]; rfl
  exact ne ((List.getElem?_inj (List.getElem?_eq_some_iff.mp a1).1 nd).mp (a1.trans a2.symm))
theorem set_keys {w : Own} {w' : Own} (e : os[m]? = some (l, w)) : (os.set m (l, w')).map (·.1) = os.map (·.1) := by
  rw [List.map_set]
  apply List.ext_getElem?
  intro j
  by_cases hj : m = j
  · subst hj
    rw [List.getElem?_set_self (by rw [List.length_map]; exact (List.getElem?_eq_some_iff.mp e).1), List.getElem?_map, e]
    rfl
  · rw [List.getElem?_set_ne hj]
/-- what is told of an owned object is told in another way -/
theorem S0.tell {w w' : Own} (s : S0 b g h σ env os) (e : os[m]? = some (l, w)) (q : ∀ o, w.P g o → w'.P g o) : S0 b g h σ env (os.set m (l, w')) := by
  have mem : ∀ p ∈ os.set m (l, w'), p = (l, w') ∨ p ∈ os := fun p hp => by
    rcases List.mem_or_eq_of_mem_set hp with z | z
    · exact .inr z
    · exact .inl z
  have hm := List.mem_of_getElem? e
  refine { s with own := fun p hp => ?_, nd := by rw [set_keys e]; exact s.nd, ol := fun p hp => ?_ }
  · rcases mem p hp with rfl | z
    · obtain ⟨n, o, e1, r⟩ := s.own _ hm
      exact ⟨n, o, e1, q o r⟩
    · exact s.own p z
  · rcases mem p hp with rfl | z
    · exact s.ol (l, w) hm
    · exact s.ol p z
/-- one of many shapes -/
def Own.ex {ι : Type} (ok : ι → Prop) (W : ι → Own) : Own := ⟨fun g o => ∃ p, ok p ∧ (W p).P g o, fun {g g' o} e ⟨p, h1, h2⟩ => ⟨p, h1, (W p).mono e h2⟩⟩
theorem S0.opened {ι : Type} {ok : ι → Prop} {W : ι → Own} (s : S0 b g h σ env os) (e : os[m]? = some (l, Own.ex ok W)) : ∃ p, ok p ∧ S0 b g h σ env (os.set m (l, W p)) := by
  obtain ⟨n, o, e1, p, h1, h2⟩ := s.own _ (List.mem_of_getElem? e)
  refine ⟨p, h1, ?_⟩
  have hl := (List.getElem?_eq_some_iff.mp e).1
  have mem : ∀ q ∈ os.set m (l, W p), q = (l, W p) ∨ q ∈ os := fun q hq => by
    rcases List.mem_or_eq_of_mem_set hq with z | z
    · exact .inr z
    · exact .inl z
  refine { s with own := fun q hq => ?_, nd := by rw [set_keys e]; exact s.nd, ol := fun q hq => ?_ }
  · rcases mem q hq with rfl | z
    · exact ⟨n, o, e1, h2⟩
    · exact s.own q z
  · rcases mem q hq with rfl | z
    · exact s.ol (l, Own.ex ok W) (List.mem_of_getElem? e)
    · exact s.ol q z
theorem S0.closed {ι : Type} {ok : ι → Prop} {W : ι → Own} {p : ι} (s : S0 b g h σ env os) (e : os[m]? = some (l, W p)) (hp : ok p) : S0 b g h σ env (os.set m (l, Own.ex ok W)) :=
  s.tell e fun o q => ⟨p, hp, q⟩
theorem S0.perm (s : S0 b g h σ env os) (hp : os.Perm os') : S0 b g h σ env os' :=
  { s with own := fun p q => s.own p (hp.mem_iff.mpr q), nd := (hp.map _).nodup s.nd, ol := fun p q => s.ol p (hp.mem_iff.mpr q) }
/-- an owned list that is not the caller's becomes a value -/
theorem S0.freezeN {xs : List α} (s : S0 b g h σ env os) (hx : env[i]? = some (.val V inferInstance (V.ref l))) (ho : os[m]? = some (l, Own.lst K xs)) (nl : l ∉ b.ls) : ∃ g', S0 b g' h σ (env.set i (sv xs)) (os.eraseIdx m) := by
  obtain ⟨n1, o, e1, vs, rfl, p1⟩ := s.own _ (List.mem_of_getElem? ho)
  have hm := List.mem_of_getElem? ho
  have nb : b.h l = none := (s.ol _ hm).resolve_right nl
  have lg : Same g (upd g l (.lst vs)) := fun c u q => by rw [upd_ne (ne_of_none q n1)]; exact q
  have nin : ∀ p ∈ os.eraseIdx m, p ∈ os ∧ p.1 ≠ l := fun p hp => by
    obtain ⟨j, hj, hjm⟩ := List.mem_eraseIdx_iff_getElem?.mp hp
    exact ⟨List.mem_of_getElem? hjm, os_other s.nd hjm ho hj⟩
  refine ⟨upd g l (.lst vs), fun c u q => ?_, by rw [List.length_set]; exact s.len, fun n t e => ?_, fun p hp => ?_, ?_, s.gg.trans lg, s.fr, s.th, fun a n m => ?_, fun p hp => s.ol p (nin p hp).1⟩
  · by_cases hc : c = l
    · subst hc; rw [upd_same] at q; cases q; exact e1
    · rw [upd_ne hc] at q; exact s.gh _ _ q
  · by_cases hn : i = n
    · subst hn
      have hl : i < env.length := (List.getElem?_eq_some_iff.mp hx).1
      rw [List.getElem?_set_self hl] at e
      cases e
      obtain ⟨v, q1, q2⟩ := s.sl i _ hx
      cases q2
      exact ⟨_, q1, l, vs, rfl, .inl (.inl upd_same), pr_mono lg p1⟩
    · rw [List.getElem?_set_ne hn] at e
      exact Slot.ok_mono lg (s.sl n t e)
  · obtain ⟨hp1, hp2⟩ := nin p hp
    obtain ⟨n2, o2, e2, q2⟩ := s.own p hp1
    exact ⟨by rw [upd_ne hp2]; exact n2, o2, e2, p.2.mono lg q2⟩
  · have : ((os.eraseIdx m).map (·.1)).Sublist (os.map (·.1)) := (List.eraseIdx_sublist os m).map _
    exact this.nodup s.nd
  · rw [upd_ne (fun z => by rw [z, nb] at m; exact m rfl)]
    exact s.new a n m
/-- .. where the caller's objects stand elsewhere in os -/
theorem S0.freezeW {xs : List α} (s : S0 b g h σ env os) (hx : env[i]? = some (.val V inferInstance (V.ref l))) (ho : os[m]? = some (l, Own.lst K xs)) (n : Nat) (hb : b.ls = (os.take n).map (·.1)) (hn : n ≤ m) : ∃ g', S0 b g' h σ (env.set i (sv xs)) (os.eraseIdx m) :=
  s.freezeN hx ho fun z => by
    rw [hb] at z
    obtain ⟨p, hp, e⟩ := List.mem_map.mp z
    obtain ⟨k, hk⟩ := List.mem_iff_getElem?.mp hp
    have hkn : k < n := by
      have := (List.getElem?_eq_some_iff.mp hk).1
      rw [List.length_take] at this
      omega
    rw [List.getElem?_take_of_lt hkn] at hk
    exact os_other s.nd hk ho (by omega) e

/-! ### mixed lists -/
def Own.lsl (xs : List (Slot K)) : Own := ⟨fun g o => ∃ vs, o = .lst vs ∧ Args g vs xs, fun {g g' o} e ⟨vs, h1, h2⟩ => ⟨vs, h1, args_mono e h2⟩⟩
theorem own_lsl {xs : List (Slot K)} (s : S0 b g h σ env os) (ho : os[m]? = some (l, Own.lsl xs)) : ∃ vs, h l = some (.lst vs) ∧ Args g vs xs := by
  obtain ⟨n1, o, e1, vs, rfl, p1⟩ := s.own _ (List.mem_of_getElem? ho)
  exact ⟨vs, e1, p1⟩
theorem args_at {vs : List V} {xs : List (Slot K)} {n : Nat} {x : α} (r : Args g vs xs) (e : xs[n]? = some (sv x)) : ∃ v, vs[n]? = some v ∧ iα.R g v x := by
  obtain ⟨v, h1, h2⟩ := args_get r e
  exact ⟨v, h1, h2⟩
theorem args_set {vs : List V} {xs : List (Slot K)} {v : V} {x : α} (r : iα.R g v x) : ∀ (n : Nat), Args g vs xs → Args g (vs.set n v) (xs.set n (sv x)) := by
  intro n q
  induction q generalizing n with
  | nil => exact .nil
  | cons h t ih =>
    cases n with
    | zero => exact .cons ⟨v, rfl, r⟩ t
    | succ n => exact .cons h (ih n)
theorem atI_nat {xs : List V} {n : Nat} {v : V} (h : xs[n]? = some v) : atI xs (n : Int) = some v := by
  have hl := (List.getElem?_eq_some_iff.mp h).1
  unfold atI
  rw [ixN_eq (by omega) (by omega)]
  exact h
/-- x[n], n a number that stands in the text -/
theorem ev_ixH {xs : List (Slot K)} {x : α} {n : Nat} (hx : env[i]? = some (.val V inferInstance (V.ref l))) (ho : os[m]? = some (l, Own.lsl xs)) (hn : xs[n]? = some (sv x)) : Ev (tOp (rIxL K) (tVar i) (tC (.int (n : Int)))) env os x := fun {b g h σ Q} s q =>
  ev_var hx s fun v g1 h1 l1 r1 => by
    cases r1
    obtain ⟨vs, e, p⟩ := own_lsl (s.le l1) ho
    obtain ⟨v, e', r⟩ := args_at p hn
    exact ⟨l, vs, n, v, rfl, rfl, SqL.of e, atI_nat e', q _ _ _ l1 r⟩
theorem ev_lenH {xs : List (Slot K)} (hx : env[i]? = some (.val V inferInstance (V.ref l))) (ho : os[m]? = some (l, Own.lsl xs)) : Ev (tCB (fun xs H Q => ∃ p ys, xs = [V.ref p] ∧ (SqL K H p ys ∨ SqT K H p ys) ∧ Q (.int ys.length) H) (tCons (tVar i) tNil)) env os (xs.length : Int) := fun {b g h σ Q} s q =>
  ev_var hx s fun v g1 h1 l1 r1 => by
    cases r1
    obtain ⟨vs, e, p⟩ := own_lsl (s.le l1) ho
    exact ⟨l, vs, rfl, .inl (SqL.of e), q _ _ _ l1 (by rw [args_len p]; rfl)⟩
theorem st_setH {xs : List (Slot K)} {x : α} {n : Nat} (s : S0 b g h σ env os) (e : Ev te env os x) (hx : env[i]? = some (.val V inferInstance (V.ref l))) (ho : os[m]? = some (l, Own.lsl xs)) (hn : n < xs.length)
    (k : ∀ g' h', S0 b g' h' σ env (os.set m (l, Own.lsl (xs.set n (sv x)))) → D.nx σ h') : tAsg te (gSub (tVar i) (tC (.int (n : Int))) rSetL) D σ h :=
  e s fun v g1 h1' l1 r1 => ev_var hx (s.le l1) fun w g2 h2 l2 r2 => by
    cases r2
    have s3 := (s.le l1).le l2
    obtain ⟨vs, e', p⟩ := own_lsl s3 ho
    exact ⟨l, vs, n, n, rfl, rfl, e', ixN_eq (by omega) (by rw [args_len p]; omega), k g2 _ (s3.put (w' := Own.lsl (xs.set n (sv x))) ho ⟨_, rfl, args_set (iα.mono l2.gg r1) _ p⟩)⟩
/-- x = [..], mixed, to be changed later -/
theorem st_newH {xs : List (Slot K)} {ts : TA} (s : S0 b g h σ env os) (e : EvA ts env os xs) (hl : xs.length ≤ 100000) (k : ∀ l g' h', S0 b g' h' (σ.set i (some (.ref l))) (env.set i (sv (V.ref l))) (os ++ [(l, Own.lsl xs)]) → D.nx (σ.set i (some (.ref l))) h') : tAsg (tLst ts) (gName i) D σ h :=
  e s fun vs g1 h1 l1 r1 => ⟨by rw [args_len r1]; exact Nat.le_trans hl (by decide), fun p hp => k p g1 _ (((s.le l1).add (w := Own.lsl xs) hp ⟨vs, rfl, r1⟩).set ⟨_, rfl, rfl⟩)⟩
theorem st_retH {xs : List (Slot K)} {ts : TA} (s : S0 b g h σ env os) (e : EvA ts env os xs) (hl : xs.length ≤ 100000) (k : ∀ l g' h', S0 b g' h' σ env (os ++ [(l, Own.lsl xs)]) → D.rt (.ref l) h') : tRet (tLst ts) D σ h :=
  e s fun vs g1 h1 l1 r1 => ⟨by rw [args_len r1]; exact Nat.le_trans hl (by decide), fun p hp => k p g1 _ ((s.le l1).add (w := Own.lsl xs) hp ⟨vs, rfl, r1⟩)⟩

/-! ### dicts with texts and ints as keys -/
inductive KR (g : Hp) : List (Key × V) → List (Key × Slot K) → Prop where
  | nil : KR g [] []
  | cons {a : Key × V} {c : Key × Slot K} {vs : List (Key × V)} {kvs : List (Key × Slot K)} : (a.1 = c.1 ∧ c.2.ok g (some a.2)) → KR g vs kvs → KR g (a :: vs) (c :: kvs)
theorem kr_snoc {vs : List (Key × V)} {kvs : List (Key × Slot K)} {a : Key × V} {c : Key × Slot K} (p : KR g vs kvs) (r : a.1 = c.1 ∧ c.2.ok g (some a.2)) : KR g (vs ++ [a]) (kvs ++ [c]) := by
  induction p with
  | nil => exact .cons r .nil
  | cons q _ ih => exact .cons q ih
theorem kr_mono {vs : List (Key × V)} {kvs : List (Key × Slot K)} (e : Same g g') (p : KR g vs kvs) : KR g' vs kvs := by
  induction p with
  | nil => exact .nil
  | cons q _ ih => exact .cons ⟨q.1, Slot.ok_mono e q.2⟩ ih
theorem kr_len {vs : List (Key × V)} {kvs : List (Key × Slot K)} (p : KR g vs kvs) : vs.length = kvs.length := by
  induction p with
  | nil => rfl
  | cons q _ ih => rw [List.length_cons, List.length_cons, ih]
def getS (kvs : List (Key × Slot K)) (k : Key) : Option (Slot K) := (kvs.find? fun kv => decide (kv.1 = k)).map (·.2)
def putS (kvs : List (Key × Slot K)) (k : Key) (v : Slot K) : List (Key × Slot K) := if (kvs.any fun kv => decide (kv.1 = k)) = true then kvs.map (fun kv => if kv.1 = k then (kv.1, v) else kv) else kvs ++ [(k, v)]
theorem kf_get {vs : List (Key × V)} {kvs : List (Key × Slot K)} {k : Key} {t : Slot K} (p : KR g vs kvs) (e : getS kvs k = some t) : ∃ v, valV vs k = some v ∧ t.ok g (some v) := by
  unfold getS at e
  unfold valV
  induction p with
  | nil => cases e
  | @cons a c as cs r _ ih =>
    by_cases hk : c.1 = k
    · rw [List.find?_cons_of_pos (by simpa using hk)] at e
      rw [List.find?_cons_of_pos (by simpa using r.1.trans hk)]
      cases e
      exact ⟨a.2, rfl, r.2⟩
    · rw [List.find?_cons_of_neg (by simpa using hk)] at e
      rw [List.find?_cons_of_neg (by rw [decide_eq_true_iff, r.1]; exact hk)]
      exact ih e
theorem kf_any {vs : List (Key × V)} {kvs : List (Key × Slot K)} (p : KR g vs kvs) (k : Key) : (vs.any fun kv => decide (kv.1 = k)) = kvs.any fun kv => decide (kv.1 = k) := by
  induction p with
  | nil => rfl
  | cons r _ ih => rw [List.any_cons, List.any_cons, ih, r.1]
theorem kf_put {vs : List (Key × V)} {kvs : List (Key × Slot K)} {k : Key} {v : V} {t : Slot K} (p : KR g vs kvs) (r : t.ok g (some v)) : KR g (putK vs k v) (putS kvs k t) := by
  unfold putK putS
  rw [kf_any p k]
  split
  · rename_i hany
    clear hany
    induction p with
    | nil => exact .nil
    | @cons a c as cs q _ ih =>
      refine .cons ?_ ih
      show (if a.1 = k then (a.1, v) else a).1 = (if c.1 = k then (c.1, t) else c).1 ∧ (if c.1 = k then (c.1, t) else c).2.ok g (some (if a.1 = k then (a.1, v) else a).2)
      rw [q.1]
      by_cases hk : c.1 = k
      · rw [if_pos hk, if_pos hk]; exact ⟨rfl, r⟩
      · rw [if_neg hk, if_neg hk]; exact q
  · exact kr_snoc p ⟨rfl, r⟩
def Own.dic (kvs : List (Key × Slot K)) : Own := ⟨fun g o => ∃ vs, o = .dK vs ∧ KR g vs kvs, fun {g g' o} e ⟨vs, h1, h2⟩ => ⟨vs, h1, kr_mono e h2⟩⟩
theorem own_dic {kvs : List (Key × Slot K)} (s : S0 b g h σ env os) (ho : os[m]? = some (l, Own.dic kvs)) : ∃ vs, h l = some (.dK vs) ∧ KR g vs kvs := by
  obtain ⟨n1, o, e1, vs, rfl, p1⟩ := s.own _ (List.mem_of_getElem? ho)
  exact ⟨vs, e1, p1⟩
/-- d['key'] -/
theorem ev_dgetO {kvs : List (Key × Slot K)} {x : α} {k : Str} (hx : env[i]? = some (.val V inferInstance (V.ref l))) (ho : os[m]? = some (l, Own.dic kvs)) (e : getS kvs (.inr k) = some (sv x)) : Ev (tDGet (tVar i) (tC (.str k))) env os x := fun {b g h σ Q} s q =>
  ev_var hx s fun v g1 h1 l1 r1 => by
    cases r1
    obtain ⟨vs, e1, p⟩ := own_dic (s.le l1) ho
    obtain ⟨v, e2, v', e3, r⟩ := kf_get p e
    cases e3
    refine ⟨l, v, rfl, ?_, q _ _ _ l1 r⟩
    rw [← e2]
    exact DGet.k (k := .inr k) e1
/-- d['key'] = e -/
theorem st_dputO {kvs : List (Key × Slot K)} {x : α} {k : Str} (s : S0 b g h σ env os) (e : Ev te env os x) (hx : env[i]? = some (.val V inferInstance (V.ref l))) (ho : os[m]? = some (l, Own.dic kvs)) (hl : kvs.length < 1000)
    (q : ∀ g' h', S0 b g' h' σ env (os.set m (l, Own.dic (putS kvs (.inr k) (sv x)))) → D.nx σ h') : sDPut (tVar i) (tC (.str k)) te D σ h :=
  e s fun v g1 h1 l1 r1 => ev_var hx (s.le l1) fun w g2 h2 l2 r2 => by
    cases r2
    have s3 := (s.le l1).le l2
    obtain ⟨vs, e', p⟩ := own_dic s3 ho
    exact ⟨l, _, rfl, DPut.k (k := .inr k) e' (by rw [kr_len p]; exact Nat.lt_trans hl (by decide)), q g2 _ (s3.put (w' := Own.dic (putS kvs (.inr k) (sv x))) ho ⟨_, rfl, kf_put p ⟨v, rfl, iα.mono l2.gg r1⟩⟩)⟩

/-! ### calls that change their objects -/
theorem cw_call {A : List (Slot K) → Os → (γ → Os → Prop) → Prop} {P : γ → Os → Prop} {xs : List (Slot K)} {E : XK} {ts : TA} {Q : VK} (osc rest : Os) (s : S0 b g h σ env os) (hp : os.Perm (osc ++ rest)) (e : EvA ts env os xs) (hA : A xs osc P)
    (k : ∀ v z osz g' h', P z osz → S0 b g' h' σ env (osz ++ rest) → Same g g' → iγ.R g' v z → Q v h') : tCall (SpW K A) [] E ts σ h Q :=
  e s fun vs g1 h1 l1 r1 => by
    have s1 := s.le l1
    have s2 := s1.perm hp
    have nd2 := s2.nd
    rw [List.map_append] at nd2
    have nds := List.nodup_append.mp nd2
    refine ⟨g1, xs, osc, P, hA, l1.gh, s2.ow.sub (fun p q => List.mem_append_left _ q) nds.1, by rw [List.append_nil]; exact r1, fun v z osz g2 h2 hz hf l2 o2 r2 => ?_⟩
    refine k v z osz g2 h2 hz (s2.after (fun p q => List.mem_append_left _ q) l2 o2 hf (fun p q => ?_) ?_) (l1.gg.trans l2.gg) r2
    · rcases List.mem_append.mp q with q | q
      · exact .inl q
      · exact .inr ⟨List.mem_append_right _ q, fun z => nds.2.2 _ z _ (List.mem_map_of_mem q) rfl⟩
    · rw [List.map_append]
      refine List.nodup_append.mpr ⟨o2.nd, nds.2.1, fun x hx y hy exy => ?_⟩
      subst exy
      obtain ⟨p, hpz, rfl⟩ := List.mem_map.mp hx
      obtain ⟨q, hq, e1⟩ := List.mem_map.mp hy
      rcases hf p hpz with z | z
      · exact nds.2.2 _ z _ (List.mem_map_of_mem hq) e1.symm
      · obtain ⟨_, u, e2, _⟩ := s2.own q (List.mem_append_right _ hq)
        rw [e1, z] at e2
        cases e2
theorem st_setCW {A : List (Slot K) → Os → (γ → Os → Prop) → Prop} {P : γ → Os → Prop} {xs : List (Slot K)} {E : XK} {ts : TA} (osc rest : Os) (s : S0 b g h σ env os) (hp : os.Perm (osc ++ rest)) (e : EvA ts env os xs) (hA : A xs osc P)
    (k : ∀ z osz, P z osz → ∀ v g' h', S0 b g' h' (σ.set i (some v)) (env.set i (sv z)) (osz ++ rest) → D.nx (σ.set i (some v)) h') : tAsg (tCall (SpW K A) [] E ts) (gName i) D σ h :=
  cw_call osc rest s hp e hA fun v z osz g' h' hz s' _ r => k z osz hz v g' h' (s'.set ⟨v, rfl, r⟩)
end
end Lw
/-! Displays of dicts; helps for calls in expressions. -/
namespace Lw
open PySem PySem.Spec PyProof.Rows L2
section
variable {K : PySem.W.Frag}
variable {env : Env K} {os osc os' osz rest : Os} {ta tb te tx tl : TE} {tt t u : TT} {α β γ : Type} [iα : Py K α] [iβ : Py K β] [iγ : Py K γ]
variable {b : Bs} {g h g' h' : Hp} {σ : L2.St} {D : Ends} {t1 t2 : TS} {i j m : Nat} {l : Addr}
def EvP (trs : List (TE × TE)) (env : Env K) (os : Os) (kvs : List (Key × Slot K)) : Prop :=
  ∀ {b : Bs} {g h : Hp} {σ : L2.St} {Q : List (V × V) → Hp → Prop}, S0 b g h σ env os → (∀ vs g' h', Le g h g' h' → KR g' vs kvs → Q (vs.map fun kv => (kV kv.1, kv.2)) h') → tPairs trs σ h Q
theorem ep_nil : EvP (K := K) [] env os [] := fun {b g h σ Q} s q => q [] g h (Le.refl s.gh) .nil
theorem ep_cons {trs : List (TE × TE)} {kvs : List (Key × Slot K)} {k : Str} {x : α} (hv : Ev te env os x) (hr : EvP trs env os kvs) : EvP ((tC (.str k), te) :: trs) env os ((.inr k, sv x) :: kvs) := fun {b g h σ Q} s q =>
  hv s fun v g1 h1 l1 r1 => hr (s.le l1) fun vs g2 h2 l2 r2 => q ((.inr k, v) :: vs) g2 h2 (l1.trans l2) (.cons ⟨rfl, v, rfl, iα.mono l2.gg r1⟩ r2)
def mergeS (kvs more : List (Key × Slot K)) : List (Key × Slot K) := more.foldl (fun acc kv => putS acc kv.1 kv.2) kvs
theorem kr_merge {vs ws : List (Key × V)} {kvs more : List (Key × Slot K)} (r : KR g ws more) (p : KR g vs kvs) : KR g (mergeK vs ws) (mergeS kvs more) := by
  induction r generalizing vs kvs with
  | nil => exact p
  | @cons a c as cs q _ ih =>
    have : KR g (putK vs a.1 a.2) (putS kvs c.1 c.2) := by rw [q.1]; exact kf_put p q.2
    exact ih this
theorem st_retD {trs : List (TE × TE)} {kvs : List (Key × Slot K)} (s : S0 b g h σ env os) (e : EvP trs env os kvs) (hl : kvs.length ≤ 15) (k : ∀ l g' h', S0 b g' h' σ env (os ++ [(l, Own.dic (mergeS [] kvs))]) → D.rt (.ref l) h') : tRet (tDisp trs) D σ h := fun p hp => by
  have s1 := s.add (w := Own.dic (K := K) []) (o := .dK []) hp ⟨[], rfl, .nil⟩
  refine e s1.drop fun vs g2 h2 l2 r2 => ?_
  have s2 := s1.le l2
  obtain ⟨ws, e2, r⟩ := own_dic s2 last_at
  cases r
  have s3 := s2.put (w' := Own.dic (mergeS [] kvs)) (o := .dK (mergeK [] vs)) last_at ⟨_, rfl, kr_merge r2 .nil⟩
  rw [last_set] at s3
  exact ⟨e2, vs, rfl, by rw [kr_len r2]; exact hl, k p g2 _ s3⟩
theorem st_setD {trs : List (TE × TE)} {kvs : List (Key × Slot K)} (s : S0 b g h σ env os) (e : EvP trs env os kvs) (hl : kvs.length ≤ 15) (k : ∀ l g' h', S0 b g' h' (σ.set i (some (.ref l))) (env.set i (sv (V.ref l))) (os ++ [(l, Own.dic (mergeS [] kvs))]) → D.nx (σ.set i (some (.ref l))) h') : tAsg (tDisp trs) (gName i) D σ h := fun p hp => by
  have s1 := s.add (w := Own.dic (K := K) []) (o := .dK []) hp ⟨[], rfl, .nil⟩
  refine e s1.drop fun vs g2 h2 l2 r2 => ?_
  have s2 := s1.le l2
  obtain ⟨ws, e2, r⟩ := own_dic s2 last_at
  cases r
  have s3 := s2.put (w' := Own.dic (mergeS [] kvs)) (o := .dK (mergeK [] vs)) last_at ⟨_, rfl, kr_merge r2 .nil⟩
  rw [last_set] at s3
  exact ⟨e2, vs, rfl, by rw [kr_len r2]; exact hl, k p g2 _ (s3.set ⟨_, rfl, rfl⟩)⟩
/-- a draw: f(bag, size) gives some r, 0 ≤ r < size; the bag is told as before -/
def a_take (K : PySem.W.Frag) (B : Own) (M : Int) : List (Slot K) → Os → (Int → Os → Prop) → Prop := fun xs os P => ∃ (l : Addr) (n : Int), xs = [sv (V.ref l), sv n] ∧ os = [(l, B)] ∧ (0 < n ∧ n ≤ M) ∧ ∀ r, 0 ≤ r → r < n → P r os
theorem ew_take {B : Own} {M : Int} {PN : Int → Prop} {E : XK} (hx : env[i]? = some (.val V inferInstance (V.ref l))) (ho : os[m]? = some (l, B)) (hn : EvW te env os PN) (hp : ∀ n, PN n → 0 < n ∧ n ≤ M) :
    EvW (tCall (SpW K (a_take K B M)) [] E (tCons (tVar i) (tCons te tNil))) env os (fun r => ∃ n, PN n ∧ 0 ≤ r ∧ r < n) := .mk fun {b g h σ os2 Q} s q =>
  ev_var hx s.drop fun v g1 h1 l1 r1 => hn.run (s.le l1) fun w n g2 h2 pn s2 e2 r2 => by
    cases r1
    have hm := List.mem_append_left os2 (List.mem_of_getElem? ho)
    refine ⟨g2, [sv (V.ref l), sv n], [(l, B)], fun r os' => (0 ≤ r ∧ r < n) ∧ os' = [(l, B)], ⟨l, n, rfl, rfl, hp n pn, fun r h0 h1 => ⟨⟨h0, h1⟩, rfl⟩⟩, s2.gh, ?_, arg2 rfl r2, ?_⟩
    · exact s2.ow.sub (fun p hp => by rw [List.mem_singleton] at hp; rw [hp]; exact hm) (by simp)
    · rintro v r os' g3 h3 ⟨hr, rfl⟩ _ l3 o3 r3
      exact q v r g3 h3 ⟨n, pn, hr⟩ (s2.afterSame (fun p hp => by rw [List.mem_singleton] at hp; rw [hp]; exact hm) l3 o3) (l1.gg.trans (e2.trans l3.gg)) r3
/-- .. of a known size -/
theorem ew_takeC {B : Own} {M : Int} {n : Int} {E : XK} (hx : env[i]? = some (.val V inferInstance (V.ref l))) (ho : os[m]? = some (l, B)) (hn : Ev te env os n) (hp : 0 < n ∧ n ≤ M) :
    EvW (tCall (SpW K (a_take K B M)) [] E (tCons (tVar i) (tCons te tNil))) env os (fun r => 0 ≤ r ∧ r < n) :=
  EvW.imp (ew_take (PN := fun y => y = n) hx ho (Ev.w hn) fun _ e => by rw [e]; exact hp) fun r ⟨_, e, h⟩ => by rw [e] at h; exact h
end
end Lw
/-! A choice whose two ways go on alike; room. -/
namespace Lw
open PySem PySem.Spec PyProof.Rows L2
section
variable {K : PySem.W.Frag} {env : Env K} {os : Os} {t : TT} {b : Bs} {g h : Hp} {σ : L2.St} {D : Ends} {t1 t2 : TS}
theorem st_if_cut {c : Bool} (J : Env K → Os → Prop) (s : S0 b g h σ env os) (e : EvT t env os c) (k : ∀ env' os' g' h' σ', J env' os' → S0 b g' h' σ' env' os' → D.nx σ' h')
    (k1 : c = true → ∀ g' h' (N : L2.St → Hp → Prop), S0 b g' h' σ env os → (∀ env' os' g' h' σ', J env' os' → S0 b g' h' σ' env' os' → N σ' h') → t1 { D with nx := N } σ h')
    (k2 : c = false → ∀ g' h' (N : L2.St → Hp → Prop), S0 b g' h' σ env os → (∀ env' os' g' h' σ', J env' os' → S0 b g' h' σ' env' os' → N σ' h') → t2 { D with nx := N } σ h') : tIfS t t1 t2 D σ h :=
  st_if s e (fun hc g' h' s => k1 hc g' h' D.nx s k) (fun hc g' h' s => k2 hc g' h' D.nx s k)
theorem st_if_cutW {P : Bool → Prop} (J : Env K → Os → Prop) (s : S0 b g h σ env os) (e : EvTW t env os P) (k : ∀ env' os' g' h' σ', J env' os' → S0 b g' h' σ' env' os' → D.nx σ' h')
    (k1 : P true → ∀ g' h' (N : L2.St → Hp → Prop), S0 b g' h' σ env os → (∀ env' os' g' h' σ', J env' os' → S0 b g' h' σ' env' os' → N σ' h') → t1 { D with nx := N } σ h')
    (k2 : P false → ∀ g' h' (N : L2.St → Hp → Prop), S0 b g' h' σ env os → (∀ env' os' g' h' σ', J env' os' → S0 b g' h' σ' env' os' → N σ' h') → t2 { D with nx := N } σ h') : tIfS t t1 t2 D σ h :=
  st_ifW s e (fun hc g' h' s => k1 hc g' h' D.nx s k) (fun hc g' h' s => k2 hc g' h' D.nx s k)
theorem st_setQ {α : Type} [iα : Py K α] {i : Nat} {te : TE} {x : α} (P : α → Prop) (s : S0 b g h σ env os) (e : Ev te env os x) (hx : P x) (k : ∀ x, P x → ∀ v g' h', S0 b g' h' (σ.set i (some v)) (env.set i (sv x)) os → D.nx (σ.set i (some v)) h') : tAsg te (gName i) D σ h :=
  st_set s e (fun v g' h' s => k x hx v g' h' s)
end
theorem mod_bd {x m : Int} (h : 0 < m) : 0 ≤ x % m ∧ x % m < m := ⟨Int.emod_nonneg _ (by omega), Int.emod_lt_of_pos _ h⟩
end Lw
/-! A list or a tuple; dicts whose keys are tuples of ints (as sets of keys); calls of defs that may raise. -/
namespace Lw
open PySem PySem.Spec PyProof.Rows L2
/-- a list or a tuple -/
structure Sq (α : Type) where
  isL : Bool
  l : List α
section
variable {K : PySem.W.Frag}
instance instSq {α : Type} [i : Py K α] : Py K (Sq α) := ⟨fun g v x => ∃ a vs, v = .ref a ∧ ((x.isL = true ∧ SqL K g a vs) ∨ (x.isL = false ∧ g a = some (.tup vs))) ∧ Paired (i.R g) vs x.l, fun {g g' v x} e h => by
  obtain ⟨a, vs, h1, h2, h3⟩ := h
  refine ⟨a, vs, h1, ?_, paired_mono (fun _ _ q => i.mono e q) h3⟩
  rcases h2 with ⟨q, h2⟩ | ⟨q, h2⟩
  · exact .inl ⟨q, e.seq h2⟩
  · exact .inr ⟨q, e _ _ h2⟩⟩
variable {env : Env K} {os : Os} {ta tb te tx tl : TE} {t u tt : TT} {α β γ : Type} [iα : Py K α] [iβ : Py K β] [iγ : Py K γ]
variable {b : Bs} {g h g' h' : Hp} {σ : L2.St} {D : Ends} {t1 t2 : TS} {i j m : Nat} {l : Addr}
theorem ev_sqL {xs : List α} (ha : Ev te env os xs) : Ev te env os (Sq.mk true xs) := fun {b g h σ Q} s q => ha s fun v g1 h1 l1 ⟨a, vs, h2, h3, h4⟩ => q v g1 h1 l1 ⟨a, vs, h2, .inl ⟨rfl, h3⟩, h4⟩
theorem ev_sqT {xs : Tup α} (ha : Ev te env os xs) : Ev te env os (Sq.mk false xs.l) := fun {b g h σ Q} s q => ha s fun v g1 h1 l1 ⟨a, vs, h2, h3, h4⟩ => q v g1 h1 l1 ⟨a, vs, h2, .inr ⟨rfl, h3⟩, h4⟩
def iSq (K : PySem.W.Frag) (tl : TE) : TI := fun σ H R => tl σ H fun x H1 => ∃ a, x = .ref a ∧ (((∃ xs, SqL K H1 a xs) ∧ R (Itl K a) H1) ∨ ((∃ xs, SqT K H1 a xs) ∧ R (Itt K a) H1))
theorem pi_sq {X : Cx} {tg l : Expr} {tl : TE} (hl : PE X l tl) : PI X tg l (iSq X.K tl) := by
  refine ⟨fun pins s σ H R I h => ?_⟩
  refine thn (hl.run pins s σ H _ I h) fun v s1 ⟨x, H1, I1, r1, q1⟩ => ?_
  obtain ⟨a, e, q⟩ := q1
  subst e
  cases r1
  rcases q with ⟨⟨xs, hq⟩, q⟩ | ⟨⟨xs, hq⟩, q⟩
  · obtain ⟨its, rv, p, hz⟩ := I1.list hq
    refine wpAny_pyIter_list p.isList ?_
    refine ⟨s1.heap.objs.size, [s1.heap.objs.size], _, _, H1, rfl, I1.kept (t' := s1.toks) fun b o e => Heap.get?_push_of_some _ e, turn_list a _, ⟨_, Heap.get?_push_size _ rfl, rfl, rfl⟩, fun b hb => ?_, q⟩
    have e : b = s1.heap.objs.size := by simpa using hb
    subst e
    exact I1.fpOk (Nat.le_refl _) (I1.hok.fresh (Nat.le_refl _))
  · obtain ⟨its, rv, p, hz⟩ := I1.tuple hq
    refine wpAny_pyIter_tuple (show s1.heap.IsTuple a its.toArray from p) ?_
    refine ⟨s1.heap.objs.size, [s1.heap.objs.size], _, _, H1, rfl, I1.kept (t' := s1.toks) fun b o e => Heap.get?_push_of_some _ e, turn_tuple a _, ⟨_, Heap.get?_push_size _ rfl, rfl, rfl⟩, fun b hb => ?_, q⟩
    have e : b = s1.heap.objs.size := by simpa using hb
    subst e
    exact I1.fpOk (Nat.le_refl _) (I1.hok.fresh (Nat.le_refl _))
theorem st_for_sq {tb : TS} {gt : TG} {ws : List Nat} {f : Env K → α → Env K} {xs : Sq α} (hg : TgtF (K := K) gt ws f) (s : S0 b g h σ env os) (e : Ev te env os xs) (I : Nat → Env K → Os → Prop) (h0 : I 0 env os)
    (hs : ∀ n x, xs.l[n]? = some x → Turn1 b D tb I n (fun e => f e x)) (hd : ∀ env' os' g' h' σ', I xs.l.length env' os' → S0 b g' h' σ' env' os' → D.nx σ' h') : tFor (iSq K te) gt tb D σ h := by
  refine e s fun v g1 h1 l1 r1 => ?_
  obtain ⟨a, vs, rfl, hq, hp⟩ := r1
  rcases hq with ⟨_, hq⟩ | ⟨_, hq⟩
  · refine ⟨a, rfl, .inl ⟨⟨vs, l1.gh.seq hq⟩, for_list (K := K) (a := a) (xs := vs) (fun n σ' h' => ∃ g' env' os', Same g1 g' ∧ I n env' os' ∧ S0 b g' h' σ' env' os') ⟨g1, env, os, Same.refl _, h0, s.le l1⟩ (fun n σ' h' _ ⟨g', _, _, e1, _, s'⟩ => (e1.trans s'.gh).seq hq) ?_ ?_⟩⟩
    · rintro n x σ' h' hx ⟨g', env', os', e1, hI, s'⟩
      obtain ⟨y, hy, ry⟩ := paired_getL hp hx
      exact turn1_go hg (hs n y hy) hI s' (iα.mono e1 ry) fun env2 os2 g2 h2 σ2 e2 hI2 s2 => ⟨g2, env2, os2, e1.trans e2, hI2, s2⟩
    · rintro σ' h' ⟨g', env', os', e1, hI, s'⟩
      rw [hp.length] at hI
      exact hd env' os' g' h' σ' hI s'
  · refine ⟨a, rfl, .inr ⟨⟨vs, same_tup l1.gh hq⟩, for_tup (K := K) (a := a) (xs := vs) (fun n σ' h' => ∃ g' env' os', Same g1 g' ∧ I n env' os' ∧ S0 b g' h' σ' env' os') ⟨g1, env, os, Same.refl _, h0, s.le l1⟩ (fun n σ' h' _ ⟨g', _, _, e1, _, s'⟩ => same_tup (e1.trans s'.gh) hq) ?_ ?_⟩⟩
    · rintro n x σ' h' hx ⟨g', env', os', e1, hI, s'⟩
      obtain ⟨y, hy, ry⟩ := paired_getL hp hx
      exact turn1_go hg (hs n y hy) hI s' (iα.mono e1 ry) fun env2 os2 g2 h2 σ2 e2 hI2 s2 => ⟨g2, env2, os2, e1.trans e2, hI2, s2⟩
    · rintro σ' h' ⟨g', env', os', e1, hI, s'⟩
      rw [hp.length] at hI
      exact hd env' os' g' h' σ' hI s'
/-! ### dicts with tuples of ints as keys, taken as sets of keys -/
abbrev kI (k : List Int) : List Key := k.map Sum.inl
theorem kI_inj : ∀ {a b : List Int}, kI a = kI b → a = b
  | [], [], _ => rfl
  | [], _ :: _, h => by cases h
  | _ :: _, [], h => by cases h
  | x :: a, y :: b, h => by
    have h1 := List.cons.inj h
    rw [Sum.inl.inj h1.1, kI_inj h1.2]
theorem kI_v (k : List Int) : (kI k).map kV = k.map V.int := by unfold kI; rw [List.map_map]; rfl
/-- S: which keys are there; at most n -/
def Own.keys (S : List Int → Bool) (n : Nat) : Own := ⟨fun _ o => ∃ kvs, o = .dT kvs ∧ kvs.length ≤ n ∧ ∀ k, (valV kvs (kI k)).isSome = S k, fun {_ _ _} _ h => h⟩
structure KSet where
  S : List Int → Bool
instance : Py K KSet := ⟨fun g v x => ∃ a kvs, v = .ref a ∧ g a = some (.dT kvs) ∧ ∀ k, (valV kvs (kI k)).isSome = x.S k, fun {g g' v x} e ⟨a, kvs, h1, h2, h3⟩ => ⟨a, kvs, h1, e _ _ h2, h3⟩⟩
theorem own_keys {S : List Int → Bool} {n : Nat} (s : S0 b g h σ env os) (ho : os[m]? = some (l, Own.keys S n)) : ∃ kvs, h l = some (.dT kvs) ∧ kvs.length ≤ n ∧ ∀ k, (valV kvs (kI k)).isSome = S k := by
  obtain ⟨n1, o, e1, kvs, rfl, p1, p2⟩ := s.own _ (List.mem_of_getElem? ho)
  exact ⟨kvs, e1, p1, p2⟩
theorem tup_ints {g : Hp} {v : V} {x : Tup Int} (r : (instTup (K := K) (α := Int)).R g v x) : ∃ a, v = .ref a ∧ g a = some (.tup (x.l.map V.int)) := by
  obtain ⟨a, vs, h1, h2, h3⟩ := r
  refine ⟨a, h1, ?_⟩
  rw [h2, paired_eq (f := V.int) h3]
/-- k in d, d owned -/
theorem ev_kin {S : List Int → Bool} {n : Nat} {x : Tup Int} (ha : Ev ta env os x) (hx : env[i]? = some (.val V inferInstance (V.ref l))) (ho : os[m]? = some (l, Own.keys S n)) : Ev (tDIn ta (tVar i)) env os (S x.l) := fun {b g h σ Q} s q =>
  ha s fun v g1 h1 l1 r1 => ev_var hx (s.le l1) fun w g2 h2 l2 r2 => by
    cases r2
    obtain ⟨a, rfl, e⟩ := tup_ints r1
    obtain ⟨kvs, e1, _, p⟩ := own_keys ((s.le l1).le l2) ho
    refine ⟨l, valV kvs (kI x.l), rfl, DGet.t e1 (by rw [kI_v]; exact l2.gh _ _ (l2.gg _ _ e)), q _ _ _ (l1.trans l2) (by rw [p]; rfl)⟩
theorem ev_knin {S : List Int → Bool} {n : Nat} {x : Tup Int} (ha : Ev ta env os x) (hx : env[i]? = some (.val V inferInstance (V.ref l))) (ho : os[m]? = some (l, Own.keys S n)) : Ev (tDNotIn ta (tVar i)) env os (!S x.l) := fun {b g h σ Q} s q =>
  ha s fun v g1 h1 l1 r1 => ev_var hx (s.le l1) fun w g2 h2 l2 r2 => by
    cases r2
    obtain ⟨a, rfl, e⟩ := tup_ints r1
    obtain ⟨kvs, e1, _, p⟩ := own_keys ((s.le l1).le l2) ho
    refine ⟨l, valV kvs (kI x.l), rfl, DGet.t e1 (by rw [kI_v]; exact l2.gh _ _ (l2.gg _ _ e)), q _ _ _ (l1.trans l2) (by rw [p]; rfl)⟩
/-- .. d a value -/
theorem ev_kinV {x : Tup Int} {y : KSet} (ha : Ev ta env os x) (hb : Ev tb env os y) : Ev (tDIn ta tb) env os (y.S x.l) := fun {b g h σ Q} s q =>
  ha s fun v g1 h1 l1 r1 => hb (s.le l1) fun w g2 h2 l2 r2 => by
    obtain ⟨a, rfl, e⟩ := tup_ints r1
    obtain ⟨d, kvs, rfl, e1, p⟩ := r2
    exact ⟨d, valV kvs (kI x.l), rfl, DGet.t (l2.gh _ _ e1) (by rw [kI_v]; exact l2.gh _ _ (l2.gg _ _ e)), q _ _ _ (l1.trans l2) (by rw [p]; rfl)⟩
theorem ev_kninV {x : Tup Int} {y : KSet} (ha : Ev ta env os x) (hb : Ev tb env os y) : Ev (tDNotIn ta tb) env os (!y.S x.l) := fun {b g h σ Q} s q =>
  ha s fun v g1 h1 l1 r1 => hb (s.le l1) fun w g2 h2 l2 r2 => by
    obtain ⟨a, rfl, e⟩ := tup_ints r1
    obtain ⟨d, kvs, rfl, e1, p⟩ := r2
    exact ⟨d, valV kvs (kI x.l), rfl, DGet.t (l2.gh _ _ e1) (by rw [kI_v]; exact l2.gh _ _ (l2.gg _ _ e)), q _ _ _ (l1.trans l2) (by rw [p]; rfl)⟩
/-- x = {} -/
theorem st_newK (s : S0 b g h σ env os) (k : ∀ l h', S0 b g h' (σ.set i (some (.ref l))) (env.set i (sv (V.ref l))) (os ++ [(l, Own.keys (fun _ => false) 0)]) → D.nx (σ.set i (some (.ref l))) h') : tAsg tDNewT (gName i) D σ h :=
  fun p hp => k p _ ((s.add (w := Own.keys (fun _ => false) 0) (o := .dT []) hp ⟨[], rfl, Nat.le_refl _, fun _ => rfl⟩).set ⟨_, rfl, rfl⟩)
/-- d[k] = e -/
theorem st_kput {S : List Int → Bool} {n : Nat} {x : Tup Int} {y : β} (s : S0 b g h σ env os) (hv : Ev te env os y) (hx : env[i]? = some (.val V inferInstance (V.ref l))) (ho : os[m]? = some (l, Own.keys S n)) (ha : Ev ta env os x) (hn : n < 1000000)
    (k : ∀ g' h', S0 b g' h' σ env (os.set m (l, Own.keys (fun j => S j || decide (j = x.l)) (n + 1))) → D.nx σ h') : sDPut (tVar i) ta te D σ h :=
  hv s fun v g1 h1 l1 r1 => ev_var hx (s.le l1) fun w g2 h2 l2 r2 => ha ((s.le l1).le l2) fun z g3 h3 l3 r3 => by
    cases r2
    have s3 := ((s.le l1).le l2).le l3
    obtain ⟨a, rfl, e⟩ := tup_ints r3
    obtain ⟨kvs, e1, p1, p2⟩ := own_keys s3 ho
    refine ⟨l, _, rfl, DPut.t e1 (k := kI x.l) (by rw [kI_v]; exact s3.gh _ _ e) (Nat.lt_of_le_of_lt p1 (Nat.lt_trans hn (by decide))), k g3 _ (s3.put (w' := Own.keys (fun j => S j || decide (j = x.l)) (n + 1)) ho ⟨_, rfl, Nat.le_trans (length_putK _ _ _) (by omega), fun j => ?_⟩)⟩
    rw [valV_put]
    by_cases hj : j = x.l
    · subst hj; rw [if_pos rfl]; simp
    · rw [if_neg (fun z => hj (kI_inj z)), p2]; simp [hj]
/-- an owned object that is not the caller's becomes a value -/
theorem S0.freezeG {w : Own} {x : α} (s : S0 b g h σ env os) (hx : env[i]? = some (.val V inferInstance (V.ref l))) (ho : os[m]? = some (l, w)) (nl : l ∉ b.ls) (conv : ∀ g o, w.P g o → ∀ g', Same g g' → g' l = some o → iα.R g' (.ref l) x) : ∃ g', S0 b g' h σ (env.set i (sv x)) (os.eraseIdx m) := by
  obtain ⟨n1, o, e1, p1⟩ := s.own _ (List.mem_of_getElem? ho)
  have hm := List.mem_of_getElem? ho
  have nb : b.h l = none := (s.ol _ hm).resolve_right nl
  have lg : Same g (upd g l o) := fun c u q => by rw [upd_ne (ne_of_none q n1)]; exact q
  have nin : ∀ p ∈ os.eraseIdx m, p ∈ os ∧ p.1 ≠ l := fun p hp => by
    obtain ⟨j, hj, hjm⟩ := List.mem_eraseIdx_iff_getElem?.mp hp
    exact ⟨List.mem_of_getElem? hjm, os_other s.nd hjm ho hj⟩
  refine ⟨upd g l o, fun c u q => ?_, by rw [List.length_set]; exact s.len, fun n t e => ?_, fun p hp => ?_, ?_, s.gg.trans lg, s.fr, s.th, fun a n m => ?_, fun p hp => s.ol p (nin p hp).1⟩
  · by_cases hc : c = l
    · subst hc; rw [upd_same] at q; cases q; exact e1
    · rw [upd_ne hc] at q; exact s.gh _ _ q
  · by_cases hn : i = n
    · subst hn
      have hl : i < env.length := (List.getElem?_eq_some_iff.mp hx).1
      rw [List.getElem?_set_self hl] at e
      cases e
      obtain ⟨v, q1, q2⟩ := s.sl i _ hx
      cases q2
      exact ⟨_, q1, conv g o p1 _ lg upd_same⟩
    · rw [List.getElem?_set_ne hn] at e
      exact Slot.ok_mono lg (s.sl n t e)
  · obtain ⟨hp1, hp2⟩ := nin p hp
    obtain ⟨n2, o2, e2, q2⟩ := s.own p hp1
    exact ⟨by rw [upd_ne hp2]; exact n2, o2, e2, p.2.mono lg q2⟩
  · have : ((os.eraseIdx m).map (·.1)).Sublist (os.map (·.1)) := (List.eraseIdx_sublist os m).map _
    exact this.nodup s.nd
  · rw [upd_ne (fun z => by rw [z, nb] at m; exact m rfl)]
    exact s.new a n m
theorem S0.freezeK {S : List Int → Bool} {n : Nat} (s : S0 b g h σ env os) (hx : env[i]? = some (.val V inferInstance (V.ref l))) (ho : os[m]? = some (l, Own.keys S n)) (hb : b.ls = []) : ∃ g', S0 b g' h σ (env.set i (sv (KSet.mk S))) (os.eraseIdx m) :=
  s.freezeG hx ho (by rw [hb]; exact fun z => nomatch z) fun g o ⟨kvs, h1, _, h3⟩ g' _ e => ⟨l, kvs, rfl, by rw [e, h1], h3⟩
/-! ### calls of defs that may raise -/
theorem sE_call {A : List (Slot K) → (γ → Prop) → (Addr → List (Str × Slot K) → Prop) → Prop} {P : γ → Prop} {PE : Addr → List (Str × Slot K) → Prop} {xs : List (Slot K)} {E : XK} {ts : TA} {Q : VK} (s : S0 b g h σ env os) (e : EvA ts env os xs) (hA : A xs P PE)
    (k : ∀ v z g' h', P z → S0 b g' h' σ env os → Same g g' → iγ.R g' v z → Q v h') (kx : ∀ C fs d ws g' h', PE C fs → S0 b g' h' σ env os → h' d = none → FsR g' ws fs → E (.ref C) (some d) (upd h' d (.xd ws))) : tCall (SpE K A) [] E ts σ h Q :=
  e s fun vs g1 h1 l1 r1 => ⟨g1, xs, P, PE, hA, l1.gh, by rw [List.append_nil]; exact r1, fun v z g2 h2 hz l2 r2 => k v z g2 h2 hz ((s.le l1).le l2) (l1.gg.trans l2.gg) r2, fun C fs d ws g2 h2 he l2 hd hf => kx C fs d ws g2 h2 he ((s.le l1).le l2) hd hf⟩
theorem sE_callS {A : List (Slot K) → (γ → Prop) → (Addr → List (Str × Slot K) → Prop) → Prop} {P : γ → Prop} {PE : Addr → List (Str × Slot K) → Prop} {xs : List (Slot K)} {E : L2.St → XK} {ts : TA} {Q : VK} (s : S0 b g h σ env os) (e : EvA ts env os xs) (hA : A xs P PE)
    (k : ∀ v z g' h', P z → S0 b g' h' σ env os → Same g g' → iγ.R g' v z → Q v h') (kx : ∀ C fs d ws g' h', PE C fs → S0 b g' h' σ env os → h' d = none → FsR g' ws fs → E σ (.ref C) (some d) (upd h' d (.xd ws))) : tCallS (SpE K A) E ts σ h Q :=
  e s fun vs g1 h1 l1 r1 => ⟨g1, xs, P, PE, hA, l1.gh, r1, fun v z g2 h2 hz l2 r2 => k v z g2 h2 hz ((s.le l1).le l2) (l1.gg.trans l2.gg) r2, fun C fs d ws g2 h2 he l2 hd hf => kx C fs d ws g2 h2 he ((s.le l1).le l2) hd hf⟩
/-- .. that does not raise here -/
theorem ev_callE {A : List (Slot K) → (γ → Prop) → (Addr → List (Str × Slot K) → Prop) → Prop} {xs : List (Slot K)} {E : XK} {ts : TA} {z : γ} (e : EvA ts env os xs) (hA : A xs (fun y => y = z) fun _ _ => False) : Ev (tCall (SpE K A) [] E ts) env os z := fun {b g h σ Q} s q =>
  e s fun vs g1 h1 l1 r1 => ⟨g1, xs, _, _, hA, l1.gh, by rw [List.append_nil]; exact r1, fun v z' g2 h2 hz l2 r2 => q v g2 h2 (l1.trans l2) (hz ▸ r2), fun C fs d ws g2 h2 he => he.elim⟩
end
end Lw
namespace K14
open PySem PySem.Spec PyProof.Rows L2 Lw RZ
variable {P : Program} {w : World} {K : PySem.W.Frag} {mg : Str → Option Value} {base : Heap}
def belowB (xs ys : List Int) : Bool := (xs.zip ys).all fun p => decide (p.1 ≤ p.2)
def a_below (K : PySem.W.Frag) : List (Slot K) → (Bool → Prop) → Prop := fun xs P => ∃ low high : Tup Int, xs = [sv low, sv high] ∧ low.l.length = high.l.length ∧ P (belowB low.l high.l)
theorem zip_get {xs ys : List Int} {n : Nat} {x y : Int} (h1 : xs[n]? = some x) (h2 : ys[n]? = some y) : (xs.zip ys)[n]? = some (x, y) := by
  rw [List.getElem?_zip_eq_some]; exact ⟨h1, h2⟩
theorem all_take_succ {α : Type} {p : α → Bool} {xs : List α} {n : Nat} {x : α} (h : xs[n]? = some x) : (xs.take (n + 1)).all p = ((xs.take n).all p && p x) := by
  rw [List.take_add_one, h, List.all_append]; simp
theorem sc_below : FnScope ["low", "high", "one", "other"] ["low", "high"] (defScope (topS 5)) := ⟨rfl, rfl, rfl, by decide +kernel, rfl, by decide +kernel, by decide +kernel⟩
theorem ok_below (E : FX K mg) : Cal P w K mg base "below" 1 ["low", "high"] (SpR K (a_below K)) := by
  refine E.cal 0 2 (st := topS 5) rfl rfl (fun _ _ _ _ _ _ us hl => match us, hl with | [_, _], _ => rfl) fun f fd F => okRD F sc_below (fun xs P' h => ?_) (fun cdv Ar outer s0 H0 E0 hr xs P' h => ?_)
  · obtain ⟨_, _, rfl, _⟩ := h; rfl
  · obtain ⟨low, high, rfl, hl, hP⟩ := h
    refine ⟨_, (pss_cons (ps_for PassesOwn.never rfl (pi_zipA (by rfl) (E.free 38) (pa_cons (pv 0) (pa_cons (pv 1) pa_nil))) (pg_tupK K rfl (pgs_cons (pg_name (i := 2) sc_below.nd rfl (.inl rfl)) (pgs_cons (pg_name (i := 3) sc_below.nd rfl (.inl rfl)) pgs_nil)))
      (pss_one (ps_if (pt_cmpR op_gt (pv 2) (pv 3) (nomark _)) (pss_one (ps_ret pe_bl)) pss_nil)))
    (pss_one (ps_ret pe_bl))), fun g σ Q s fin => ?_⟩
    -- for one, other in zip(low, high):
    refine st_for_zipT tgt_pair s (ev_var rfl) (ev_var rfl) hl (fun n e o => ∃ s2 s3, e = [sv low, sv high, s2, s3] ∧ ((low.l.zip high.l).take n).all (fun p => decide (p.1 ≤ p.2)) = true) ⟨_, _, rfl, rfl⟩ (fun n x y hx hy c hls e o g h σ N hI back s hN => ?_) (fun e o g h σ hI s => ?_)
    · obtain ⟨s2, s3, rfl, ha⟩ := hI
      have hz := zip_get hx hy
      -- if one > other:
      refine st_if s (et_test (ev_ib (ev_var rfl) (ev_var rfl))) (fun hc g h s => ?_) (fun hc g h s => ?_)
      · -- return False
        refine st_ret s ev_bl ?_
        refine fun v g h s r => fin v _ g h _ _ _ ?_ (back s) r
        have : belowB low.l high.l = false := by
          unfold belowB
          rw [List.all_eq_false]
          exact ⟨(x, y), List.mem_of_getElem? hz, by have := of_decide_eq_true hc; simp; omega⟩
        rw [this] at hP
        exact hP
      · refine hN _ _ _ _ _ ⟨_, _, rfl, ?_⟩ s
        rw [all_take_succ hz, ha]
        have := of_decide_eq_false hc
        simp; omega
    · obtain ⟨s2, s3, rfl, ha⟩ := hI
      -- return True
      dsimp only
      refine st_ret s ev_bl ?_
      refine fun v g h s r => fin v _ g h _ _ _ ?_ s r
      have e : belowB low.l high.l = true := by
        rw [List.take_of_length_le (by rw [List.length_zip]; omega)] at ha
        exact ha
      rw [e] at hP
      exact hP
def a_first (K : PySem.W.Frag) : List (Slot K) → (Tup Int → Prop) → Prop := fun xs P => ∃ tops : Tup Int, xs = [sv tops] ∧ tops.l.length ≤ 1000 ∧ P ⟨List.replicate tops.l.length 0⟩
theorem sc_first_setting : FnScope ["tops"] ["tops"] (defScope (topS 8)) := ⟨rfl, rfl, rfl, by decide +kernel, rfl, by decide +kernel, by decide +kernel⟩
theorem rep_one {x : Int} {n : Nat} : (List.replicate n [x]).flatten = List.replicate n x := by
  induction n with
  | zero => rfl
  | succ n ih => rw [List.replicate_succ, List.flatten_cons, ih]; rfl
theorem ok_first_setting (E : FX K mg) : Cal P w K mg base "first_setting" 1 ["tops"] (SpR K (a_first K)) := by
  refine E.cal 3 5 (st := topS 8) rfl rfl (fun _ _ _ _ _ _ us hl => match us, hl with | [_], _ => rfl) fun f fd F => okRD F sc_first_setting (fun xs P' h => ?_) (fun cdv Ar outer s0 H0 E0 hr xs P' h => ?_)
  · obtain ⟨_, rfl, _⟩ := h; rfl
  · obtain ⟨tops, rfl, hl, hP⟩ := h
    refine ⟨_, (pss_one (ps_ret (pe_op (op_repTAK K) (pe_tup (pa_cons pe_int pa_nil)) (pe_callB (len_seqK K) (by rfl) (E.free 46) (by decide +kernel) (pa_cons (pv 0) pa_nil))))), fun g σ Q s fin => ?_⟩
    -- return (0,) * len(tops)
    refine st_ret s (ev_repT (ev_tupL (el_cons ev_int el_nil)) (ev_lenT (ev_var rfl)) ⟨by decide, by decide⟩ ⟨by omega, by omega⟩) ?_
    refine fun v g h s r => fin v _ g h _ _ _ ?_ s r
    rw [rep_one, Int.toNat_natCast]
    exact hP
end K14
namespace K14
open PySem PySem.Spec PyProof.Rows L2 Lw RZ
variable {P : Program} {w : World} {K : PySem.W.Frag} {mg : Str → Option Value} {base : Heap}
/-! ### settings -/
def nextS : List Int → List Int → Option (List Int)
  | t :: ts, l :: ls => match nextS ts ls with
    | some r => some (l :: r)
    | none => if l = t then none else some ((l + 1) :: List.replicate ls.length 0)
  | _, _ => none
theorem nextS_self : ∀ ts : List Int, nextS ts ts = none
  | [] => rfl
  | t :: ts => by unfold nextS; rw [nextS_self ts]; simp
theorem nextS_at : ∀ (ts ls : List Int) (p : Nat) (l : Int), ts.length = ls.length → ls[p]? = some l → ts[p]? ≠ some l → ts.drop (p + 1) = ls.drop (p + 1) → nextS ts ls = some (ls.take p ++ [l + 1] ++ List.replicate (ls.length - p - 1) 0)
  | [], ls, p, l, h, h1, _, _ => by
    have : ls = [] := List.eq_nil_of_length_eq_zero h.symm
    subst this
    simp at h1
  | t :: ts, [], p, l, h, _, _, _ => by cases h
  | t :: ts, x :: xs, 0, l, h, h1, h2, h3 => by
    have e1 : x = l := by simpa using h1
    have e2 : t ≠ l := by simpa using h2
    have e3 : ts = xs := by simpa using h3
    subst e1 e3
    unfold nextS
    rw [nextS_self]
    simp [Ne.symm e2]
  | t :: ts, x :: xs, p + 1, l, h, h1, h2, h3 => by
    have ih := nextS_at ts xs p l (by simpa using h) (by simpa using h1) (by simpa using h2) (by simpa using h3)
    unfold nextS
    rw [ih]
    simp
theorem drop_one {α : Type} {xs : List α} {n : Nat} {x : α} (h : xs[n]? = some x) : xs.drop n = x :: xs.drop (n + 1) := by
  obtain ⟨hn, rfl⟩ := List.getElem?_eq_some_iff.mp h
  exact List.drop_eq_getElem_cons hn
def a_next (K : PySem.W.Frag) : List (Slot K) → (Option (Tup Int) → Prop) → Prop := fun xs P => ∃ tops levels : Tup Int, xs = [sv tops, sv levels] ∧ (tops.l.length = levels.l.length ∧ levels.l.length ≤ 1000) ∧ P ((nextS tops.l levels.l).map Tup.mk)
theorem sc_next_setting : FnScope ["tops", "levels", "place"] ["tops", "levels"] (defScope (topS 9)) := ⟨rfl, rfl, rfl, by decide +kernel, rfl, by decide +kernel, by decide +kernel⟩
theorem atI_int {α : Type} {xs : List α} {i : Int} {v : α} (h0 : 0 ≤ i) (h : xs[i.toNat]? = some v) : atI xs i = some v := by
  have := atI_nat (j := i.toNat) h
  rwa [Int.toNat_of_nonneg h0] at this
theorem cut_to {α : Type} {xs : List α} {i : Int} (h0 : 0 ≤ i) (h1 : i ≤ xs.length) : cut xs none (some i) = xs.take i.toNat := by
  unfold cut
  have e : (some i : Option Int) = some ((i.toNat : Nat) : Int) := by rw [Int.toNat_of_nonneg h0]
  rw [e, HT.sIx_nat, HT.sIx_none]
  have : min i.toNat xs.length = i.toNat := by omega
  rw [this]
  simp
theorem cut_from {α : Type} {xs : List α} {i : Int} (h0 : 0 ≤ i) (h1 : i ≤ xs.length) : cut xs (some i) none = xs.drop i.toNat := by
  unfold cut
  have e : (some i : Option Int) = some ((i.toNat : Nat) : Int) := by rw [Int.toNat_of_nonneg h0]
  rw [e, HT.sIx_nat, HT.sIx_none]
  have : min i.toNat xs.length = i.toNat := by omega
  rw [this]
  apply List.take_of_length_le
  rw [List.length_drop]
  omega
theorem ev_noneT {env : Env K} {os : Os} {te : TE} (h : Ev te env os ()) : Ev te env os (none : Option (Tup Int)) := fun {b g h' σ Q} s q => h s fun v g1 h1 l1 r1 => q v g1 h1 l1 r1
theorem ev_someT {env : Env K} {os : Os} {te : TE} {x : Tup Int} (h : Ev te env os x) : Ev te env os (some x) := fun {b g h' σ Q} s q => h s fun v g1 h1 l1 r1 => q v g1 h1 l1 (by
    refine ⟨?_, r1⟩
    obtain ⟨a, vs, rfl, _⟩ := r1
    intro z
    cases z)
theorem ok_next_setting (E : FX K mg) : Cal P w K mg base "next_setting" 1 ["tops", "levels"] (SpR K (a_next K)) := by
  refine E.cal 4 6 (st := topS 9) rfl rfl (fun _ _ _ _ _ _ us hl => match us, hl with | [_, _], _ => rfl) fun f fd F => okRD F sc_next_setting (fun xs P' h => ?_) (fun cdv Ar outer s0 H0 E0 hr xs P' h => ?_)
  · obtain ⟨_, _, rfl, _⟩ := h; rfl
  · obtain ⟨tops, levels, rfl, ⟨hl, hz⟩, hP⟩ := h
    refine ⟨_, (pss_cons (ps_set (i := 2) sc_next_setting.nd rfl (.inl rfl) (pe_op op_sub (pe_callB (len_seqK K) (by rfl) (E.free 46) (by decide +kernel) (pa_cons (pv 0) pa_nil)) pe_int))
    (pss_cons (ps_while PassesOwn.never (PW.pt (pw_and (pt_cmpR op_ge (pv 2) pe_int (nomark _)) (pw_and1 (pt_cmpR op_eq (pe_ix (ix_tupK K) (pv 1) (pv 2) (fun _ _ => rfl)) (pe_ix (ix_tupK K) (pv 0) (pv 2) (fun _ _ => rfl)) (nomark _)))))
      (pss_one (ps_set (i := 2) sc_next_setting.nd rfl (.inl rfl) (pe_op op_sub (pv 2) pe_int))))
    (pss_cons (ps_if (pt_cmpR op_lt (pv 2) pe_int (nomark _)) (pss_one (ps_ret pe_non)) pss_nil)
    (pss_one (ps_ret (pe_op (op_catAK K) (pe_op (op_catAK K) (pe_slice (sl_tupAK K) (pv 1) po_none (po_some (pv 2))) (pe_tup (pa_cons (pe_op op_add (pe_ix (ix_tupK K) (pv 1) (pv 2) (fun _ _ => rfl)) pe_int) pa_nil))) (pe_op (op_repTAK K) (pe_tup (pa_cons pe_int pa_nil)) (pe_op op_sub (pe_op op_sub (pe_callB (len_seqK K) (by rfl) (E.free 46) (by decide +kernel) (pa_cons (pv 0) pa_nil)) (pv 2)) pe_int)))))))), fun g σ Q s fin => ?_⟩
    -- place = len(tops) - 1
    refine st_set s (ev_i2 (ev_lenT (ev_var rfl)) ev_int) (fun v g h s => ?_)
    -- while place >= 0 and levels[place] == tops[place]:
    refine st_while s (fun m e o => ∃ p : Int, e = [sv tops, sv levels, sv p] ∧ -1 ≤ p ∧ p < levels.l.length ∧ m = (p + 1).toNat ∧ tops.l.drop (p + 1).toNat = levels.l.drop (p + 1).toNat) tops.l.length ⟨(tops.l.length : Int) - 1, rfl, by omega, by omega, by omega, ?_⟩ (fun m e o g h σ hI s => ?_)
    · rw [List.drop_eq_nil_of_le (by omega), List.drop_eq_nil_of_le (by omega)]
    obtain ⟨p, rfl, h1, h2, rfl, h3⟩ := hI
    by_cases hp : 0 ≤ p
    · have ex1 : levels.l[p.toNat]? = some (levels.l[p.toNat]'(by omega)) := List.getElem?_eq_getElem _
      have ex2 : tops.l[p.toNat]? = some (tops.l[p.toNat]'(by omega)) := List.getElem?_eq_getElem _
      refine ⟨_, et_and (et_test (ev_ib (ev_var rfl) ev_int)) fun _ => et_test (ev_eqI (ev_ixT (ev_var rfl) (ev_var rfl) (atI_int hp ex1)) (ev_ixT (ev_var rfl) (ev_var rfl) (atI_int hp ex2))), fun hc g h N s hN => ?_, fun hc g h s => ?_⟩
      · -- place = place - 1
        rw [decide_eq_true hp, Bool.true_and, decide_eq_true_eq] at hc
        refine st_set s (ev_i2 (ev_var rfl) ev_int) (fun v g h s => ?_)
        refine hN _ _ _ _ _ _ (by omega) ⟨p - 1, rfl, by omega, by omega, rfl, ?_⟩ s
        have e1 : (p - 1 + 1).toNat = p.toNat := by omega
        have e2 : (p + 1).toNat = p.toNat + 1 := by omega
        rw [e1, drop_one ex1, drop_one ex2, hc, ← e2, h3]
      · rw [decide_eq_true hp, Bool.true_and, decide_eq_false_iff_not] at hc
        dsimp only
        -- if place < 0:
        refine st_if s (et_test (ev_ib (ev_var rfl) ev_int)) (fun hc g h s => ?_) (fun hc' g h s => ?_)
        · exact absurd (of_decide_eq_true hc) (by omega)
        · refine st_ret s (ev_someT (ev_catT (ev_catT (ev_slT (ev_var rfl) eo_none (eo_some (ev_var rfl))) (ev_tupL (el_cons (ev_i2 (ev_ixT (ev_var rfl) (ev_var rfl) (atI_int hp ex1)) ev_int) el_nil)) ?_) (ev_repT (ev_tupL (el_cons ev_int el_nil)) (ev_i2 (ev_i2 (ev_lenT (ev_var rfl)) (ev_var rfl)) ev_int) ⟨by decide, by decide⟩ ⟨by omega, by omega⟩) ?_)) ?_
          · rw [cut_to hp (by omega), List.length_take]
            exact Nat.le_trans (m := 2000) (by simp; omega) (by decide)
          · simp only [cut_to hp (show p ≤ levels.l.length by omega), rep_one, List.length_append, List.length_take, List.length_replicate]
            exact Nat.le_trans (m := 3000) (by simp; omega) (by decide)
          · refine fun v g h s r => fin v _ g h _ _ _ ?_ s r
            have e2 : (p + 1).toNat = p.toNat + 1 := by omega
            rw [nextS_at tops.l levels.l p.toNat _ hl ex1 (by rw [ex2]; exact fun z => hc (Option.some.inj z).symm) (by rw [← e2]; exact h3)] at hP
            have e3 : ((tops.l.length : Int) - p - 1).toNat = levels.l.length - p.toNat - 1 := by omega
            rw [cut_to hp (by omega), rep_one, e3]
            exact hP
    · have hp1 : p = -1 := by omega
      subst hp1
      refine ⟨false, EvT.to (et_and (d := true) (et_test (ev_ib (ev_var rfl) ev_int)) fun z => absurd (of_decide_eq_true z) (by decide)) (by rfl), fun hc g h N s hN => ?_, fun hc g h s => ?_⟩
      · cases hc
      dsimp only
      refine st_if s (et_test (ev_ib (ev_var rfl) ev_int)) (fun hc g h s => ?_) (fun hc' g h s => ?_)
      · refine st_ret s (ev_noneT ev_non) (fun v g h s r => fin v _ g h _ _ _ ?_ s r)
        have : tops.l = levels.l := by simpa using h3
        rw [this, nextS_self] at hP
        exact hP
      · exact absurd (of_decide_eq_false hc') (by decide)
end K14
namespace K14
open PySem PySem.Spec PyProof.Rows L2 Lw RZ
variable {P : Program} {w : World} {K : PySem.W.Frag} {mg : Str → Option Value} {base : Heap}
/-! ### all settings -/
def allS : List Int → List (List Int)
  | [] => [[]]
  | t :: ts => (upto (t + 1).toNat).flatMap fun l => (allS ts).map (l :: ·)
/-- xs are the settings from x on, each the next one of the one before -/
inductive Run (ts : List Int) : List Int → List (List Int) → Prop where
  | last {x : List Int} : nextS ts x = none → Run ts x [x]
  | more {x y : List Int} {r : List (List Int)} : nextS ts x = some y → Run ts y r → Run ts x (x :: r)
theorem nextS_cons_more {t : Int} {ts : List Int} {l : Int} {x y : List Int} (h : nextS ts x = some y) : nextS (t :: ts) (l :: x) = some (l :: y) := by
  show (match nextS ts x with | some r => some (l :: r) | none => _) = _
  rw [h]
theorem nextS_cons_last {t : Int} {ts : List Int} {l : Int} {x : List Int} (h : nextS ts x = none) : nextS (t :: ts) (l :: x) = if l = t then none else some ((l + 1) :: List.replicate x.length 0) := by
  show (match nextS ts x with | some r => some (l :: r) | none => if l = t then none else some ((l + 1) :: List.replicate x.length 0)) = _
  rw [h]
theorem nextS_len : ∀ {ts x y : List Int}, nextS ts x = some y → y.length = x.length
  | [], x, y, h => by simp [nextS] at h
  | t :: ts, [], y, h => by simp [nextS] at h
  | t :: ts, l :: x, y, h => by
    cases e : nextS ts x with
    | some r => rw [nextS_cons_more e] at h; cases h; simp [nextS_len e]
    | none =>
      rw [nextS_cons_last e] at h
      split at h
      · cases h
      · cases h; simp
/-- a block with the level l, and what follows -/
theorem run_block {t : Int} {ts : List Int} {l : Int} {x : List Int} {r : List (List Int)} (h : Run ts x r) (n : Nat) (hx : x.length = n) (rest : List (List Int)) (hl : (l = t ∧ rest = []) ∨ (l ≠ t ∧ Run (t :: ts) ((l + 1) :: List.replicate n 0) rest)) : Run (t :: ts) (l :: x) (r.map (l :: ·) ++ rest) := by
  induction h with
  | last e =>
    rcases hl with ⟨rfl, rfl⟩ | ⟨hne, hr⟩
    · refine .last ?_
      rw [nextS_cons_last e, if_pos rfl]
    · refine .more (y := (l + 1) :: List.replicate n 0) ?_ hr
      rw [nextS_cons_last e, if_neg hne, hx]
  | more e _ ih =>
    refine .more (nextS_cons_more e) (ih ?_)
    rw [nextS_len e]; exact hx
theorem upto_succ (n : Nat) : upto (n + 1) = upto n ++ [(n : Int)] := by unfold upto; rw [List.range_succ, List.map_append]; rfl
theorem run_from {t : Int} {ts : List Int} (ht : 0 ≤ t) (h : Run ts (List.replicate ts.length 0) (allS ts)) : ∀ (k : Nat) (l : Int), l + k = t → 0 ≤ l → Run (t :: ts) (l :: List.replicate ts.length 0) ((List.range (k + 1)).flatMap fun (j : Nat) => (allS ts).map ((l + (j : Int)) :: ·))
  | 0, l, e, h0 => by
    have := run_block (t := t) (l := l) h ts.length (by simp) [] (.inl ⟨by omega, rfl⟩)
    simpa using this
  | k + 1, l, e, h0 => by
    have ih := run_from ht h k (l + 1) (by omega) (by omega)
    have := run_block (t := t) (l := l) h ts.length (by simp) _ (.inr ⟨by omega, ih⟩)
    rw [List.range_succ_eq_map, List.flatMap_cons, List.flatMap_map]
    have e2 : (fun j : Nat => (allS ts).map ((l + ((j.succ : Nat) : Int)) :: ·)) = fun j : Nat => (allS ts).map ((l + 1 + (j : Int)) :: ·) := by
      funext j
      have : l + ((j.succ : Nat) : Int) = l + 1 + (j : Int) := by omega
      rw [this]
    show Run _ _ (_ ++ List.flatMap (fun j : Nat => (allS ts).map ((l + ((j.succ : Nat) : Int)) :: ·)) (List.range (k + 1)))
    rw [e2]
    simpa using this
theorem run_all : ∀ ts : List Int, (∀ t ∈ ts, 0 ≤ t) → Run ts (List.replicate ts.length 0) (allS ts)
  | [], _ => .last rfl
  | t :: ts, h => by
    have ht := h t List.mem_cons_self
    have ih := run_all ts fun u hu => h u (List.mem_cons_of_mem _ hu)
    have := run_from ht ih t.toNat 0 (by omega) (by omega)
    have e : (t + 1).toNat = t.toNat + 1 := by omega
    show Run (t :: ts) (0 :: List.replicate ts.length 0) ((upto (t + 1).toNat).flatMap fun l => (allS ts).map (l :: ·))
    unfold upto
    rw [e, List.flatMap_map]
    simpa using this
theorem run_head {ts x : List Int} {r : List (List Int)} (h : Run ts x r) : ∃ r', r = x :: r' := by cases h <;> exact ⟨_, rfl⟩
theorem run_len {ts x : List Int} {r : List (List Int)} (h : Run ts x r) : ∀ y ∈ r, y.length = x.length := by
  induction h with
  | last _ => intro y hy; rw [List.mem_singleton] at hy; rw [hy]
  | more e _ ih =>
    intro y hy
    rcases List.mem_cons.mp hy with rfl | hy
    · rfl
    · rw [ih y hy, nextS_len e]
def a_allS (K : PySem.W.Frag) : List (Slot K) → (List (Tup Int) → Prop) → Prop := fun xs P => ∃ tops : Tup Int, xs = [sv tops] ∧ ((∀ t ∈ tops.l, 0 ≤ t) ∧ tops.l.length ≤ 1000 ∧ (allS tops.l).length ≤ 1000000) ∧ P ((allS tops.l).map Tup.mk)
theorem sc_all_settings : FnScope ["tops", "found", "levels"] ["tops"] (defScope (topS 10)) := ⟨rfl, rfl, rfl, by decide +kernel, rfl, by decide +kernel, by decide +kernel⟩
theorem ok_all_settings (E : FX K mg) : Cal P w K mg base "all_settings" 2 ["tops"] (SpR K (a_allS K)) := by
  refine E.cal 5 7 (st := topS 10) rfl rfl (fun _ _ _ _ _ _ us hl => match us, hl with | [_], _ => rfl) fun f fd F => okRD F sc_all_settings (fun xs P' h => ?_) (fun cdv Ar outer s0 H0 E0 hr xs P' h => ?_)
  · obtain ⟨_, rfl, _⟩ := h; rfl
  · obtain ⟨tops, rfl, ⟨ht, hl, hz⟩, hP⟩ := h
    refine ⟨_, (pss_cons (ps_set (i := 1) sc_all_settings.nd rfl (.inl rfl) (pe_lst pa_nil))
    (pss_cons (ps_set (i := 2) sc_all_settings.nd rfl (.inl rfl) (pe_c (ok_first_setting E) (hr.mono (by decide)) rfl (pa_cons (pv 0) pa_nil)))
    (pss_cons (ps_while PassesOwn.never (pt_cmpR op_notN (pv 2) pe_non (nomark _))
      (pss_cons (ps_expr (pe_bm PySem.F.plainAttrs_list PySem.F.slot_list_append PySem.F.type_list_append mt_append (pv 1) (pa_cons (pv 2) pa_nil)))
    (pss_one (ps_set (i := 2) sc_all_settings.nd rfl (.inl rfl) (pe_c (ok_next_setting E) (hr.mono (by decide)) rfl (pa_cons (pv 0) (pa_cons (pv 2) pa_nil)))))))
    (pss_one (ps_ret (pv 1)))))), fun g σ Q s fin => ?_⟩
    -- found = []
    refine st_setN s (en_lst (el_nil (α := Tup Int)) (by decide)) (fun l g h s => ?_)
    -- levels = first_setting(tops)
    refine st_set s (ev_someT (ev_call (ea_cons (ev_var rfl) ea_nil) ⟨_, rfl, hl, rfl⟩)) (fun v g h s => ?_)
    -- while levels is not None:
    obtain ⟨r0, er⟩ := run_head (run_all tops.l ht)
    refine st_while s (fun m e o => ∃ (x : Option (Tup Int)) (pre suf : List (List Int)), e = [sv tops, sv (V.ref l), sv x] ∧ o = [(l, Own.lst K (pre.map Tup.mk))] ∧ allS tops.l = pre ++ suf ∧ m = suf.length ∧ ((x = none ∧ suf = []) ∨ ∃ y, x = some ⟨y⟩ ∧ Run tops.l y suf)) (allS tops.l).length ⟨_, [], allS tops.l, rfl, rfl, rfl, rfl, .inr ⟨_, rfl, run_all tops.l ht⟩⟩ (fun m e o g h σ hI s => ?_)
    obtain ⟨x, pre, suf, rfl, rfl, ea, rfl, hx⟩ := hI
    refine ⟨_, (et_test (ev_notN (ev_var rfl))), fun hc g h N s hN => ?_, fun hc g h s => ?_⟩
    · rcases hx with ⟨rfl, _⟩ | ⟨y, rfl, hr'⟩
      · cases hc
      -- found.append(levels)
      obtain ⟨suf', rfl⟩ := run_head hr'
      have hlen : y.length = tops.l.length := by
        have := run_len (run_all tops.l ht) y (by rw [ea]; exact List.mem_append_right _ List.mem_cons_self)
        simpa using this
      have hpl : (pre.map Tup.mk).length < sizeLine := by
        have := congrArg List.length ea
        rw [List.length_append, List.length_cons] at this
        rw [List.length_map]
        exact Nat.lt_of_le_of_lt (m := 1000000) (by omega) (by decide)
      refine st_append (m := 0) s rfl rfl hpl (ev_varS rfl) (fun g h s => ?_)
      -- levels = next_setting(tops, levels)
      refine st_set s (ev_call (ea_cons (ev_var rfl) (ea_cons (ev_varS rfl) ea_nil)) ⟨_, _, rfl, ⟨hlen.symm, by rw [hlen]; exact hl⟩, rfl⟩) (fun v g h s => ?_)
      refine hN suf'.length _ _ _ _ _ (by simp) ⟨_, pre ++ [y], suf', rfl, by rw [List.map_append]; rfl, by rw [ea]; simp, rfl, ?_⟩ s
      cases hr' with
      | last e => exact .inl ⟨by rw [e]; rfl, rfl⟩
      | more e r => exact .inr ⟨_, by rw [e]; rfl, r⟩
    · rcases hx with ⟨rfl, rfl⟩ | ⟨y, rfl, hr'⟩
      · dsimp only
        -- return found
        obtain ⟨g', s⟩ := s.freeze (i := 1) (m := 0) rfl rfl rfl
        refine st_ret s (ev_var rfl) ?_
        refine fun v g h s r => fin v _ g h _ _ _ ?_ s r
        rw [List.append_nil] at ea
        rw [← ea]
        exact hP
      · cases hc
end K14
namespace K14
open PySem PySem.Spec PyProof.Rows L2 Lw RZ
variable {P : Program} {w : World} {K : PySem.W.Frag} {mg : Str → Option Value} {base : Heap}
/-! ### how many -/
def prodF (ts : List Int) : Int := ts.foldl (fun m t => m * (t + 1)) 1
theorem prod_from (ts : List Int) (h : ∀ t ∈ ts, 0 ≤ t) : ∀ m : Int, 1 ≤ m → m ≤ ts.foldl (fun m t => m * (t + 1)) m := by
  induction ts with
  | nil => intro m _; exact Int.le_refl _
  | cons t ts ih =>
    intro m hm
    have ht := h t List.mem_cons_self
    have h1 : m * 1 ≤ m * (t + 1) := Int.mul_le_mul_of_nonneg_left (by omega) (by omega)
    rw [Int.mul_one] at h1
    exact Int.le_trans h1 (ih (fun x hx => h x (List.mem_cons_of_mem _ hx)) _ (by omega))
theorem prod_take {ts : List Int} (h : ∀ t ∈ ts, 0 ≤ t) (n : Nat) : 1 ≤ prodF (ts.take n) ∧ prodF (ts.take n) ≤ prodF ts := by
  refine ⟨prod_from _ (fun t ht => h t (List.mem_of_mem_take ht)) 1 (Int.le_refl _), ?_⟩
  have e : prodF ts = (ts.drop n).foldl (fun m t => m * (t + 1)) (prodF (ts.take n)) := by
    unfold prodF
    rw [← List.foldl_append, List.take_append_drop]
  rw [e]
  exact prod_from _ (fun t ht => h t (List.mem_of_mem_drop ht)) _ (prod_from _ (fun t ht => h t (List.mem_of_mem_take ht)) 1 (Int.le_refl _))
def a_count (K : PySem.W.Frag) : List (Slot K) → (Int → Prop) → Prop := fun xs P => ∃ tops : Tup Int, xs = [sv tops] ∧ ((∀ t ∈ tops.l, 0 ≤ t) ∧ prodF tops.l < 2 ^ 63) ∧ P (prodF tops.l)
theorem take_foldl {α β : Type} {f : α → β → α} {a : α} {xs : List β} {n : Nat} {x : β} (h : xs[n]? = some x) : (xs.take (n + 1)).foldl f a = f ((xs.take n).foldl f a) x := by
  rw [List.take_add_one, h, List.foldl_append]; rfl
theorem sc_count_settings : FnScope ["tops", "many", "top"] ["tops"] (defScope (topS 6)) := ⟨rfl, rfl, rfl, by decide +kernel, rfl, by decide +kernel, by decide +kernel⟩
theorem ok_count_settings (E : FX K mg) : Cal P w K mg base "count_settings" 1 ["tops"] (SpR K (a_count K)) := by
  refine E.cal 1 3 (st := topS 6) rfl rfl (fun _ _ _ _ _ _ us hl => match us, hl with | [_], _ => rfl) fun f fd F => okRD F sc_count_settings (fun xs P' h => ?_) (fun cdv Ar outer s0 H0 E0 hr xs P' h => ?_)
  · obtain ⟨_, rfl, _⟩ := h; rfl
  · obtain ⟨tops, rfl, ⟨h0, hz⟩, hP⟩ := h
    refine ⟨_, (pss_cons (ps_set (i := 1) sc_count_settings.nd rfl (.inl rfl) pe_int)
    (pss_cons (ps_for PassesOwn.never rfl (pi_tupK K (pv 0)) (pg_name (i := 2) sc_count_settings.nd rfl (.inl rfl))
      (pss_one (ps_set (i := 1) sc_count_settings.nd rfl (.inl rfl) (pe_op op_mul (pv 1) (pe_op op_add (pv 2) pe_int)))))
    (pss_one (ps_ret (pv 1))))), fun g σ Q s fin => ?_⟩
    -- many = 1
    refine st_set s ev_int (fun v g h s => ?_)
    -- for top in tops:
    refine st_for_tup tgt_name s (ev_var rfl) (fun n e o => ∃ s2, e = [sv tops, sv (prodF (tops.l.take n)), s2]) ⟨_, rfl⟩ (fun n x hx c hls e o g h σ N hI back s hN => ?_) (fun e o g h σ hI s => ?_)
    · obtain ⟨s2, rfl⟩ := hI
      have hp := prod_take h0 n
      -- many = many * (top + 1)
      refine st_set s (ev_iC (ev_var rfl) (ev_i2 (ev_var rfl) ev_int) (by exact .inl ⟨by omega, by omega⟩)) (fun v g h s => ?_)
      exact hN _ _ _ _ _ ⟨sv x, by unfold prodF; rw [take_foldl hx]; rfl⟩ s
    · obtain ⟨s2, rfl⟩ := hI
      dsimp only
      rw [List.take_length] at s
      -- return many
      refine st_ret s (ev_var rfl) ?_
      exact fun v g h s r => fin v _ g h _ _ _ hP s r
/-! ### too many -/
theorem E_TooLarge (E : FX K mg) (hP : P = PySem.Challenge.pw_planyard_k14_closing_whole) : ExcD P w K mg base "TooLarge" ["what", "limit"] := by
  subst hP
  exact excD_of E.f.glo E.f.gloN E.f.more (E.ini 0) ini_TooLarge (by decide +kernel)
def tooL (K : PySem.W.Frag) : List (Str × Slot K) := [("limit", sv (4096 : Int)), ("what", sv ("settings" : Str))]
def a_check (K : PySem.W.Frag) : List (Slot K) → (Unit → Prop) → (Addr → List (Str × Slot K) → Prop) → Prop := fun xs P PE => ∃ tops : Tup Int, xs = [sv tops] ∧ ((∀ t ∈ tops.l, 0 ≤ t) ∧ prodF tops.l < 2 ^ 63) ∧ (prodF tops.l ≤ 4096 → P ()) ∧ (4096 < prodF tops.l → PE (inC K "TooLarge") (tooL K))
theorem sc_check_many : FnScope ["tops"] ["tops"] (defScope (topS 7)) := ⟨rfl, rfl, rfl, by decide +kernel, rfl, by decide +kernel, by decide +kernel⟩
theorem ok_check_many (E : FX K mg) (hPr : P = PySem.Challenge.pw_planyard_k14_closing_whole) : CalE P w K mg base "check_many" 3 ["tops"] (SpE K (a_check K)) := by
  obtain ⟨tm, gM⟩ := E.int 36 (x := "MOST_SETTINGS") (n := 4096) rfl
  refine E.f.calE 2 4 (st := topS 7) rfl rfl (fun _ _ _ _ _ _ us hl => match us, hl with | [_], _ => rfl) fun f fd F => okED F sc_check_many (fun xs P' PE h => ?_) (fun cdv Ar outer s0 H0 E0 hr xs P' PE h => ?_)
  · obtain ⟨_, rfl, _⟩ := h; rfl
  · obtain ⟨tops, rfl, hc, hP, hE⟩ := h
    refine ⟨_, pss_one (ps_if (pt_cmpR op_gt (pe_c (ok_count_settings E) (hr.mono (by decide)) rfl (pa_cons (pv 0) pa_nil)) (pe_glob (v := .int 4096) rfl gM ⟨_, rfl⟩) (nomark _)) (pss_one (L2N.ps_raise rfl (L2N.takes_of rfl rfl rfl rfl) (pmk_x (E_TooLarge E hPr) hr rfl (pa_cons pe_str (pa_cons (pe_glob (v := .int 4096) rfl gM ⟨_, rfl⟩) pa_nil))))) pss_nil), fun g σ Q s fin finE => ?_⟩
    refine st_if s (et_test (ev_ib (ev_call (ea_cons (ev_var rfl) ea_nil) ⟨_, rfl, hc, rfl⟩) ev_int)) (fun hc g h s => ?_) (fun hc g h s => ?_)
    · have hc' : 4096 < prodF tops.l := of_decide_eq_true hc
      exact st_mk s (ea_cons ev_str (ea_cons ev_int ea_nil)) rfl (by decide) fun vs d g h s hd hf => finE _ _ d vs g h _ _ _ (hE hc') s hd hf
    · have hc' : ¬ (4096 < prodF tops.l) := of_decide_eq_false hc
      exact fin .non () g h _ _ _ (hP (by omega)) s rfl
/-! ### the settings next to one -/
def lowF (x : List Int) : List (List Int) := ((upto x.length).filter fun i => decide (x.getD i.toNat 0 > 0)).map fun i => x.set i.toNat (x.getD i.toNat 0 - 1)
def raiF (ts x : List Int) : List (List Int) := ((upto x.length).filter fun i => decide (x.getD i.toNat 0 < ts.getD i.toNat 0)).map fun i => x.set i.toNat (x.getD i.toNat 0 + 1)
theorem cut_set {xs : List Int} {i v : Int} (h0 : 0 ≤ i) (h1 : i < xs.length) : cut xs none (some i) ++ [v] ++ cut xs (some (i + 1)) none = xs.set i.toNat v := by
  rw [cut_to h0 (by omega), cut_from (by omega) (by omega), List.set_eq_take_append_cons_drop, if_pos (by omega), show (i + 1).toNat = i.toNat + 1 by omega, List.append_assoc]
  rfl
def a_lowered (K : PySem.W.Frag) : List (Slot K) → (List (Tup Int) → Prop) → Prop := fun xs P => ∃ x : Tup Int, xs = [sv x] ∧ x.l.length ≤ 1000 ∧ P ((lowF x.l).map Tup.mk)
def a_raised (K : PySem.W.Frag) : List (Slot K) → (List (Tup Int) → Prop) → Prop := fun xs P => ∃ ts x : Tup Int, xs = [sv ts, sv x] ∧ (x.l.length ≤ 1000 ∧ ts.l.length = x.l.length) ∧ P ((raiF ts.l x.l).map Tup.mk)
theorem sc_lowered : FnScope ["levels", "place"] ["levels"] (defScope (topS 11)) := ⟨rfl, rfl, rfl, by decide +kernel, rfl, by decide +kernel, by decide +kernel⟩
theorem ok_lowered (E : FX K mg) : Cal P w K mg base "lowered" 1 ["levels"] (SpR K (a_lowered K)) := by
  refine E.cal 6 8 (st := topS 11) rfl rfl (fun _ _ _ _ _ _ us hl => match us, hl with | [_], _ => rfl) fun f fd F => okRD F sc_lowered (fun xs P' h => ?_) (fun cdv Ar outer s0 H0 E0 hr xs P' h => ?_)
  · obtain ⟨_, rfl, _⟩ := h; rfl
  · obtain ⟨levels, rfl, hz, hP⟩ := h
    refine ⟨_, (pss_one (ps_ret (pe_lc (own := [("place", 1)]) (g := gName 1) rfl sc_lowered.nd (pi_range1 rfl (E.free 43) (pa_cons (pe_callB (len_seqK K) (by rfl) (E.free 46) (by decide +kernel) (pa_cons (pv 0) pa_nil)) pa_nil)) (blkOk_by (N := ["levels", "place"]) (sc := defScope (topS 11)) (own := [("place", 1)]) (by decide +kernel)) (fun _ _ _ _ _ => (pg_name (i := 1) sc_lowered.nd rfl (Or.inl rfl))) (fun _ _ _ _ _ => (pts_one (pt_cmpR op_gt (pe_ix (ix_tupK K) (pv 0) (pv 1) (fun _ _ => rfl)) pe_int (nomark _)))) (fun _ _ _ _ _ => (pe_op (op_catAK K) (pe_op (op_catAK K) (pe_slice (sl_tupAK K) (pv 0) po_none (po_some (pv 1))) (pe_tup (pa_cons (pe_op op_sub (pe_ix (ix_tupK K) (pv 0) (pv 1) (fun _ _ => rfl)) pe_int) pa_nil))) (pe_slice (sl_tupAK K) (pv 0) (po_some (pe_op op_add (pv 1) pe_int)) po_none)))))), fun g σ Q s fin => ?_⟩
    have hm : ∀ x ∈ upto (levels.l.length : Int).toNat, 0 ≤ x ∧ x < levels.l.length := fun x hx => by rw [mem_upto] at hx; omega
    have hs : ∀ x ∈ upto (levels.l.length : Int).toNat, (cut levels.l none (some x) ++ [levels.l.getD x.toNat 0 - 1] ++ cut levels.l (some (x + 1)) none).length = levels.l.length := fun x hx => by rw [cut_set (hm x hx).1 (hm x hx).2, List.length_set]
    refine st_ret s (EvN.ev (en_lcR (m := fun x => Tup.mk (levels.l.set x.toNat (levels.l.getD x.toNat 0 - 1))) (ev_lenT (ev_var rfl)) (fun x hx => (et_test (ev_ib (ev_ixTD 0 (ev_var rfl) (ev_var rfl) (hm x hx).1 (hm x hx).2) ev_int)))
      (fun x hx _ => Ev.to (ev_catT (ev_catT (ev_slT (ev_var rfl) eo_none (eo_some (ev_var rfl))) (ev_tupL (el_cons (ev_i2 (ev_ixTD 0 (ev_var rfl) (ev_var rfl) (hm x hx).1 (hm x hx).2) ev_int) el_nil)) ?_) (ev_slT (ev_var rfl) (eo_some (ev_i2 (ev_var rfl) ev_int)) eo_none) ?_) ?_) (by omega) (by omega))) ?_
    · have := hs x hx
      rw [List.length_append] at this
      exact Nat.le_trans (m := 1000) (by show (cut levels.l none (some x)).length + [levels.l.getD x.toNat 0 - 1].length ≤ 1000; rw [← List.length_append]; omega) (by decide)
    · have := hs x hx
      rw [List.length_append] at this
      exact Nat.le_trans (m := 1000) (by show (cut levels.l none (some x) ++ [levels.l.getD x.toNat 0 - 1]).length + (cut levels.l (some (x + 1)) none).length ≤ 1000; omega) (by decide)
    · exact congrArg Tup.mk (cut_set (hm x hx).1 (hm x hx).2)
    · refine fun v g h s r => fin v _ g h _ _ _ ?_ s r
      unfold lowF at hP
      rw [List.map_map] at hP
      exact hP
theorem sc_raised : FnScope ["tops", "levels", "place"] ["tops", "levels"] (defScope (topS 12)) := ⟨rfl, rfl, rfl, by decide +kernel, rfl, by decide +kernel, by decide +kernel⟩
theorem ok_raised (E : FX K mg) : Cal P w K mg base "raised" 1 ["tops", "levels"] (SpR K (a_raised K)) := by
  refine E.cal 7 9 (st := topS 12) rfl rfl (fun _ _ _ _ _ _ us hl => match us, hl with | [_, _], _ => rfl) fun f fd F => okRD F sc_raised (fun xs P' h => ?_) (fun cdv Ar outer s0 H0 E0 hr xs P' h => ?_)
  · obtain ⟨_, _, rfl, _⟩ := h; rfl
  · obtain ⟨tops, levels, rfl, ⟨hz, hl⟩, hP⟩ := h
    refine ⟨_, (pss_one (ps_ret (pe_lc (own := [("place", 2)]) (g := gName 2) rfl sc_raised.nd (pi_range1 rfl (E.free 43) (pa_cons (pe_callB (len_seqK K) (by rfl) (E.free 46) (by decide +kernel) (pa_cons (pv 1) pa_nil)) pa_nil)) (blkOk_by (N := ["tops", "levels", "place"]) (sc := defScope (topS 12)) (own := [("place", 2)]) (by decide +kernel)) (fun _ _ _ _ _ => (pg_name (i := 2) sc_raised.nd rfl (Or.inl rfl))) (fun _ _ _ _ _ => (pts_one (pt_cmpR op_lt (pe_ix (ix_tupK K) (pv 1) (pv 2) (fun _ _ => rfl)) (pe_ix (ix_tupK K) (pv 0) (pv 2) (fun _ _ => rfl)) (nomark _)))) (fun _ _ _ _ _ => (pe_op (op_catAK K) (pe_op (op_catAK K) (pe_slice (sl_tupAK K) (pv 1) po_none (po_some (pv 2))) (pe_tup (pa_cons (pe_op op_add (pe_ix (ix_tupK K) (pv 1) (pv 2) (fun _ _ => rfl)) pe_int) pa_nil))) (pe_slice (sl_tupAK K) (pv 1) (po_some (pe_op op_add (pv 2) pe_int)) po_none)))))), fun g σ Q s fin => ?_⟩
    have hm : ∀ x ∈ upto (levels.l.length : Int).toNat, 0 ≤ x ∧ x < levels.l.length := fun x hx => by rw [mem_upto] at hx; omega
    have hm2 : ∀ x ∈ upto (levels.l.length : Int).toNat, x < tops.l.length := fun x hx => by have := hm x hx; omega
    have hs : ∀ x ∈ upto (levels.l.length : Int).toNat, (cut levels.l none (some x) ++ [levels.l.getD x.toNat 0 + 1] ++ cut levels.l (some (x + 1)) none).length = levels.l.length := fun x hx => by rw [cut_set (hm x hx).1 (hm x hx).2, List.length_set]
    refine st_ret s (EvN.ev (en_lcR (m := fun x => Tup.mk (levels.l.set x.toNat (levels.l.getD x.toNat 0 + 1))) (ev_lenT (ev_var rfl)) (fun x hx => (et_test (ev_ib (ev_ixTD 0 (ev_var rfl) (ev_var rfl) (hm x hx).1 (hm x hx).2) (ev_ixTD 0 (ev_var rfl) (ev_var rfl) (hm x hx).1 (hm2 x hx)))))
      (fun x hx _ => Ev.to (ev_catT (ev_catT (ev_slT (ev_var rfl) eo_none (eo_some (ev_var rfl))) (ev_tupL (el_cons (ev_i2 (ev_ixTD 0 (ev_var rfl) (ev_var rfl) (hm x hx).1 (hm x hx).2) ev_int) el_nil)) ?_) (ev_slT (ev_var rfl) (eo_some (ev_i2 (ev_var rfl) ev_int)) eo_none) ?_) ?_) (by omega) (by omega))) ?_
    · have := hs x hx
      rw [List.length_append] at this
      exact Nat.le_trans (m := 1000) (by show (cut levels.l none (some x)).length + [levels.l.getD x.toNat 0 + 1].length ≤ 1000; rw [← List.length_append]; omega) (by decide)
    · have := hs x hx
      rw [List.length_append] at this
      exact Nat.le_trans (m := 1000) (by show (cut levels.l none (some x) ++ [levels.l.getD x.toNat 0 + 1]).length + (cut levels.l (some (x + 1)) none).length ≤ 1000; omega) (by decide)
    · exact congrArg Tup.mk (cut_set (hm x hx).1 (hm x hx).2)
    · refine fun v g h s r => fin v _ g h _ _ _ ?_ s r
      unfold raiF at hP
      rw [List.map_map] at hP
      exact hP
end K14
/-! for x in reversed(a list). -/
namespace Lw
open PySem PySem.Spec PyProof.Rows L2
theorem rev_get {α : Type} {xs : List α} {i : Nat} (h : i < xs.length) : xs.reverse[i]? = xs[xs.length - 1 - i]? := by rw [List.getElem?_reverse h]
theorem for_rev {K : PySem.W.Frag} {a : Addr} {xs : List V} {g : TG} {tb : TS} {D : Ends} {σ : L2.St} {H : Hp} (Pv : Nat → L2.St → Hp → Prop) (h0 : Pv 0 σ H) (hl : ∀ i σ H, i ≤ xs.length → Pv i σ H → SqL K H a xs)
    (hs : ∀ i x σ H, xs.reverse[i]? = some x → Pv i σ H → g x σ H fun σ2 H2 => tb { D with nx := Pv (i + 1), ct := Pv (i + 1), bk := D.nx } σ2 H2) (hd : ∀ σ H, Pv xs.length σ H → D.nx σ H) :
    ∃ W : Nat → Nat → L2.St → Hp → Prop, (∃ m, W 0 m σ H) ∧ ∀ i m σ H, W i m σ H →
      ((Itv K a xs.length).stop i H ∧ D.nx σ H) ∨ ((Itv K a xs.length).go i H ∧ ∃ N : L2.St → Hp → Prop, (∀ σ' H', N σ' H' → ∃ m', m' < m ∧ W (i + 1) m' σ' H') ∧ ∀ x H', (Itv K a xs.length).yld i H x H' → g x σ H' fun σ2 H2 => tb { D with nx := N, ct := N, bk := D.nx } σ2 H2) := by
  refine ⟨fun i m σ H => m = xs.length - i ∧ i ≤ xs.length ∧ Pv i σ H, ⟨xs.length, by simp, Nat.zero_le _, h0⟩, ?_⟩
  rintro i m σ H ⟨rfl, hi, p⟩
  have q := hl i σ H hi p
  by_cases hlt : i < xs.length
  · have hlt2 : xs.length - 1 - i < xs.length := by omega
    refine .inr ⟨⟨hlt, xs, xs[xs.length - 1 - i], q, by rw [List.getElem?_eq_getElem hlt2]⟩, Pv (i + 1), fun σ' H' p' => ⟨xs.length - (i + 1), by omega, rfl, hlt, p'⟩, fun x H' y => ?_⟩
    obtain ⟨e, y⟩ := y
    subst e
    exact hs i x σ _ (by rw [rev_get hlt]; exact y xs q) p
  · have e : i = xs.length := by omega
    subst e
    exact .inl ⟨Nat.le_refl _, hd σ H p⟩
section
variable {K : PySem.W.Frag} {env : Env K} {os : Os} {te : TE} {α : Type} [iα : Py K α] {b : Bs} {g h : Hp} {σ : L2.St} {D : Ends}
theorem st_for_rev {tb : TS} {gt : TG} {ws : List Nat} {f : Env K → α → Env K} {xs : List α} (hg : TgtF (K := K) gt ws f) (s : S0 b g h σ env os) (e : Ev te env os xs) (I : Nat → Env K → Os → Prop) (h0 : I 0 env os)
    (hs : ∀ n x, xs.reverse[n]? = some x → Turn1 b D tb I n (fun e => f e x)) (hd : ∀ env' os' g' h' σ', I xs.length env' os' → S0 b g' h' σ' env' os' → D.nx σ' h') : tFor (iRev K (tCons te tNil)) gt tb D σ h := by
  refine e s fun v g1 h1 l1 r1 => ?_
  obtain ⟨a, vs, rfl, hq, hp⟩ := r1
  refine ⟨a, vs, rfl, l1.gh.seq hq, for_rev (K := K) (a := a) (xs := vs) (fun n σ' h' => ∃ g' env' os', Same g1 g' ∧ I n env' os' ∧ S0 b g' h' σ' env' os') ⟨g1, env, os, Same.refl _, h0, s.le l1⟩ (fun n σ' h' _ ⟨g', _, _, e1, _, s'⟩ => (e1.trans s'.gh).seq hq) ?_ ?_⟩
  · rintro n x σ' h' hx ⟨g', env', os', e1, hI, s'⟩
    obtain ⟨y, hy, ry⟩ := paired_getL (paired_rev hp) hx
    exact turn1_go hg (hs n y hy) hI s' (iα.mono e1 ry) fun env2 os2 g2 h2 σ2 e2 hI2 s2 => ⟨g2, env2, os2, e1.trans e2, hI2, s2⟩
  · rintro σ' h' ⟨g', env', os', e1, hI, s'⟩
    rw [hp.length] at hI
    exact hd env' os' g' h' σ' hI s'
end
end Lw
namespace Lw
open PySem PySem.Spec PyProof.Rows L2
section
variable {K : PySem.W.Frag} {env : Env K} {os : Os} {ta tb te : TE} {α : Type} [iα : Py K α] {b : Bs} {g h : Hp} {σ : L2.St} {D : Ends} {i m : Nat} {l : Addr}
/-- return a new list, to be changed later -/
theorem st_retN {xs : List α} (s : S0 b g h σ env os) (e : EvN te env os xs) (k : ∀ l g' h', S0 b g' h' σ env (os ++ [(l, Own.lst K xs)]) → D.rt (.ref l) h') : tRet te D σ h :=
  e s fun l vs g1 h1 l1 hl r1 => k l g1 _ ((s.le l1).add (w := Own.lst K xs) hl ⟨vs, rfl, r1⟩)
theorem ev_bag {xs : List Int} (n : Nat) (hx : env[i]? = some (.val V inferInstance (V.ref l))) (ho : os[m]? = some (l, Own.lst K xs)) (hn : n < xs.length) : Ev (tOp (rIxL K) (tVar i) (tC (.int (n : Int)))) env os (xs.getD n 0) :=
  ev_ixO hx ho ev_int (by have := atI_getD (d := (0 : Int)) (xs := xs) (i := (n : Int)) (by omega) (by omega); rw [this, Int.toNat_natCast])
theorem Ev.held {xs : List α} (he : EvN te env os xs) : EvH te env os xs := EvN.held he
end
theorem getD_set_ne {xs : List Int} {i j : Nat} {v : Int} (h : i ≠ j) : (xs.set i v).getD j 0 = xs.getD j 0 := by
  rw [List.getD_eq_getElem?_getD, List.getD_eq_getElem?_getD, List.getElem?_set_ne h]
theorem getD_set_eq {xs : List Int} {i : Nat} {v : Int} (h : i < xs.length) : (xs.set i v).getD i 0 = v := by
  rw [List.getD_eq_getElem?_getD, List.getElem?_set_self h]; rfl
end Lw
namespace Lw
open PySem PySem.Spec PyProof.Rows L2
/-- a list that was made here (not the script, not a written one): it may stand in + -/
structure SL (α : Type) where
  l : List α
section
variable {K : PySem.W.Frag} {env : Env K} {os : Os} {te : TE} {α : Type} [iα : Py K α]
instance instSL {α : Type} [i : Py K α] : Py K (SL α) := ⟨fun g v xs => ∃ a vs, v = .ref a ∧ g a = some (.lst vs) ∧ Paired (i.R g) vs xs.l, fun {g g' v x} e ⟨a, vs, h1, h2, h3⟩ => ⟨a, vs, h1, e _ _ h2, paired_mono (fun _ _ q => i.mono e q) h3⟩⟩
theorem EvN.evS {xs : List α} (h : EvN te env os xs) : Ev te env os (SL.mk xs) := fun {b g h' σ Q} s q => h s fun l vs g1 h1 l1 hl p =>
  q _ (upd g1 l (.lst vs)) _ (l1.trans (Le.laid l1.gh hl)) ⟨l, vs, rfl, upd_same, pr_mono (Le.laid l1.gh hl).gg p⟩
theorem ev_weakS {xs : SL α} (h : Ev te env os xs) : Ev te env os xs.l := fun {b g h' σ Q} s q => h s fun v g1 h1 l1 ⟨a, vs, e1, e2, e3⟩ => q v g1 h1 l1 ⟨a, vs, e1, .inl (.inl e2), e3⟩
theorem eh_S {xs : SL α} (h : Ev te env os xs) : EvH te env os xs.l := fun {b g h' σ Q} s q => h s fun v g1 h1 l1 ⟨a, vs, e1, e2, e3⟩ => by subst e1; exact q a vs g1 h1 l1 (l1.gh _ _ e2) e3
end
end Lw
namespace Lw
open PySem PySem.Spec PyProof.Rows L2
/-- values that stand by themselves -/
class Imm (K : PySem.W.Frag) (α : Type) [i : Py K α] : Prop where
  im : ∀ {g g' : Hp} {v : V} {x : α}, i.R g v x → i.R g' v x
instance {K : PySem.W.Frag} : Imm K Int := ⟨fun h => h⟩
instance {K : PySem.W.Frag} : Imm K Bool := ⟨fun h => h⟩
instance {K : PySem.W.Frag} : Imm K Str := ⟨fun h => h⟩
section
variable {K : PySem.W.Frag} {env : Env K} {os : Os} {ta tb te : TE} {α β γ : Type} [iα : Py K α] [iβ : Py K β] [iγ : Py K γ] [im : Imm K γ] {i m : Nat} {l : Addr}
/-- a call f(owned list, e) of a def that changes nothing: the list stands as a value for the while of the call -/
theorem ev_callO {A : List (Slot K) → (γ → Prop) → Prop} {xs : List α} {y : β} {z : γ} {E : XK} (hx : env[i]? = some (.val V inferInstance (V.ref l))) (ho : os[m]? = some (l, Own.lst K xs)) (hb : Ev te env os y) (hA : A [sv xs, sv y] (fun w => w = z)) :
    Ev (tCall (SpR K A) [] E (tCons (tVar i) (tCons te tNil))) env os z := fun {b g h σ Q} s q =>
  ev_var hx s fun v g1 h1 l1 r1 => hb (s.le l1) fun w g2 h2 l2 r2 => by
    cases r1
    have s2 := (s.le l1).le l2
    obtain ⟨n1, o, e1, vs, rfl, p1⟩ := s2.own _ (List.mem_of_getElem? ho)
    have n1 : g2 l = none := n1
    have lg : Same g2 (upd g2 l (.lst vs)) := fun c u q => by rw [upd_ne (ne_of_none q n1)]; exact q
    have gh : Same (upd g2 l (.lst vs)) h2 := fun c u q => by
      by_cases hc : c = l
      · subst hc; rw [upd_same] at q; cases q; exact e1
      · rw [upd_ne hc] at q; exact s2.gh _ _ q
    refine ⟨upd g2 l (.lst vs), [sv xs, sv y], _, hA, gh, .cons ⟨_, rfl, l, vs, rfl, .inl (.inl upd_same), pr_mono lg p1⟩ (.cons ⟨w, rfl, iβ.mono lg r2⟩ .nil), fun v' z' g3 h3 hz l3 r3 => ?_⟩
    subst hz
    refine q v' (fun a => if a = l then none else g3 a) h3 (l1.trans (l2.trans ⟨fun c u q => ?_, l3.hh, fun c u q => ?_, fun a n k => ?_⟩)) (im.im r3)
    · have : c ≠ l := ne_of_none q n1
      show (if c = l then none else g3 c) = some u
      rw [if_neg this]
      exact l3.gg _ _ (lg _ _ q)
    · have : c ≠ l := fun z => by
        have q' : (if c = l then none else g3 c) = some u := q
        rw [if_pos z] at q'
        cases q'
      have q' : (if c = l then none else g3 c) = some u := q
      rw [if_neg this] at q'
      exact l3.gh _ _ q'
    · show (if a = l then none else g3 a) = none
      by_cases hc : a = l
      · rw [if_pos hc]
      · rw [if_neg hc]
        exact l3.new a (by rw [upd_ne hc]; exact n) k
end
end Lw
namespace K14
open PySem PySem.Spec PyProof.Rows L2 Lw RZ
variable {P : Program} {w : World} {K : PySem.W.Frag} {mg : Str → Option Value} {base : Heap}
theorem allS_mem_len : ∀ (ts : List Int), ∀ x ∈ allS ts, x.length = ts.length
  | [], x, h => by rw [show allS [] = [[]] from rfl, List.mem_singleton] at h; rw [h]
  | t :: ts, x, h => by
    rw [show allS (t :: ts) = (upto (t + 1).toNat).flatMap fun l => (allS ts).map (l :: ·) from rfl, List.mem_flatMap] at h
    obtain ⟨l, _, h⟩ := h
    obtain ⟨y, hy, rfl⟩ := List.mem_map.mp h
    rw [List.length_cons, List.length_cons, allS_mem_len ts y hy]
theorem flatMap_len {α β : Type} (f : α → List β) (n : Nat) : ∀ L : List α, (∀ x ∈ L, (f x).length = n) → (L.flatMap f).length = L.length * n
  | [], _ => by simp
  | a :: L, h => by
    rw [List.flatMap_cons, List.length_append, h a List.mem_cons_self, flatMap_len f n L fun x hx => h x (List.mem_cons_of_mem _ hx), List.length_cons, Nat.add_mul]
    omega
theorem foldl_mul (ts : List Int) : ∀ m : Int, ts.foldl (fun m t => m * (t + 1)) m = m * prodF ts := by
  induction ts with
  | nil => intro m; show m = m * 1; omega
  | cons t ts ih =>
    intro m
    have h1 := ih (m * (t + 1))
    have h2 := ih (1 * (t + 1))
    unfold prodF
    rw [List.foldl_cons, List.foldl_cons, h1, h2, Int.one_mul, Int.mul_assoc]
theorem allS_len : ∀ ts : List Int, (∀ t ∈ ts, 0 ≤ t) → ((allS ts).length : Int) = prodF ts
  | [], _ => rfl
  | t :: ts, h => by
    have ih := allS_len ts fun x hx => h x (List.mem_cons_of_mem _ hx)
    have ht := h t List.mem_cons_self
    rw [show allS (t :: ts) = (upto (t + 1).toNat).flatMap fun l => (allS ts).map (l :: ·) from rfl, flatMap_len _ (allS ts).length _ (fun x _ => by rw [List.length_map]), upto_len, Int.natCast_mul, ih]
    show _ = (ts.foldl (fun m t => m * (t + 1)) (1 * (t + 1)))
    rw [foldl_mul, Int.one_mul, Int.toNat_of_nonneg (by omega)]
/-! ### closed sets -/
def addK (S : List Int → Bool) (x : List Int) : List Int → Bool := fun j => S j || decide (j = x)
def toldS (told : List (Tup Int)) : List Int → Bool := told.foldl (fun S x => addK S x.l) (fun _ => false)
def stepB (nb : List Int → List (List Int)) (S : List Int → Bool) (x : List Int) : List Int → Bool := if (nb x).any S = true then addK S x else S
def upF (ts : List Int) (told : List (Tup Int)) : List Int → Bool := (allS ts).foldl (stepB lowF) (toldS told)
def downF (ts : List Int) (told : List (Tup Int)) : List Int → Bool := (allS ts).reverse.foldl (stepB (raiF ts)) (toldS told)
def okT (ts : Tup Int) : Prop := (∀ t ∈ ts.l, 0 ≤ t) ∧ prodF ts.l ≤ 4096 ∧ ts.l.length ≤ 1000
def a_closed (K : PySem.W.Frag) (F : List Int → List (Tup Int) → List Int → Bool) : List (Slot K) → (KSet → Prop) → Prop := fun xs P => ∃ (ts : Tup Int) (told : Sq (Tup Int)), xs = [sv ts, sv told] ∧ (okT ts ∧ told.l.length ≤ 5000) ∧ P ⟨F ts.l told.l⟩
theorem okT_len {ts : Tup Int} (h : okT ts) : (allS ts.l).length ≤ 4096 := by
  have := allS_len ts.l h.1
  have := h.2.1
  omega
theorem map_tup_get {L : List (List Int)} {n : Nat} {x : Tup Int} (h : (L.map Tup.mk)[n]? = some x) : L[n]? = some x.l := by
  rw [List.getElem?_map] at h
  cases e : L[n]? with
  | none => rw [e] at h; cases h
  | some y => rw [e] at h; cases h; rfl
theorem any_mk {L : List (List Int)} {S : List Int → Bool} : ((L.map Tup.mk).map fun x : Tup Int => S x.l).any id = L.any S := by rw [List.map_map, List.any_map]; rfl
theorem all_mk {L : List (List Int)} {S : List Int → Bool} : ((L.map Tup.mk).map fun x : Tup Int => S x.l).all id = L.all S := by rw [List.map_map, List.all_map]; rfl
theorem sc_closed_up : FnScope ["tops", "told", "closed", "levels", "lower"] ["tops", "told"] (defScope (topS 13)) := ⟨rfl, rfl, rfl, by decide +kernel, rfl, by decide +kernel, by decide +kernel⟩
theorem ok_closed_up (E : FX K mg) : Cal P w K mg base "closed_up" 3 ["tops", "told"] (SpR K (a_closed K upF)) := by
  refine E.cal 8 10 (st := topS 13) rfl rfl (fun _ _ _ _ _ _ us hl => match us, hl with | [_, _], _ => rfl) fun f fd F => okRD F sc_closed_up (fun xs P' h => ?_) (fun cdv Ar outer s0 H0 E0 hr xs P' h => ?_)
  · obtain ⟨_, _, rfl, _⟩ := h; rfl
  · obtain ⟨tops, told, rfl, ⟨hts, hz⟩, hP⟩ := h
    have hal := okT_len hts
    refine ⟨_, (pss_cons (ps_set (i := 2) sc_closed_up.nd rfl (.inr rfl) pe_dnewT)
    (pss_cons (ps_for PassesOwn.never rfl (pi_sq (pv 1)) (pg_name (i := 3) sc_closed_up.nd rfl (.inl rfl))
      (pss_one (ps_dput (hu_of hr) (pv 2) (pv 3) pe_bl rfl)))
    (pss_cons (ps_for PassesOwn.never rfl (pi_listK K (pe_c (ok_all_settings E) (hr.mono (by decide)) rfl (pa_cons (pv 0) pa_nil))) (pg_name (i := 3) sc_closed_up.nd rfl (.inl rfl))
      (pss_one (ps_if (pt_val (pe_callB (anyK K) (by rfl) (E.free 47) (by decide +kernel) (pa_cons (pe_lc (own := [("lower", 4)]) (g := gName 4) (tt := tYes) rfl sc_closed_up.nd (pi_listK K (pe_c (ok_lowered E) (hr.mono (by decide)) rfl (pa_cons (pv 3) pa_nil))) (blkOk_by (N := ["tops", "told", "closed", "levels", "lower"]) (sc := defScope (topS 13)) (own := [("lower", 4)]) (by decide +kernel)) (fun _ _ _ _ _ => (pg_name (i := 4) sc_closed_up.nd rfl (Or.inl rfl))) (fun _ _ _ _ _ => pts_nil) (fun _ _ _ _ _ => (pe_cmp (pc_din (hu_of hr) (pv 4) (pv 2))))) pa_nil))) (pss_one (ps_dput (hu_of hr) (pv 2) (pv 3) pe_bl rfl)) pss_nil)))
    (pss_one (ps_ret (pv 2)))))), fun g σ Q s fin => ?_⟩
    -- closed = {}
    refine st_newK s (fun l h s => ?_)
    -- for levels in told:
    refine st_for_sq tgt_name s (ev_var rfl) (fun n e o => ∃ s3 s4 : Slot K, e = [sv tops, sv told, sv (V.ref l), s3, s4] ∧ o = [(l, Own.keys ((told.l.take n).foldl (fun S x => addK S x.l) (fun _ => false)) n)]) ⟨_, _, rfl, rfl⟩ (fun n x hx c hls e o g h σ N hI back s hN => ?_) (fun e o g h σ hI s => ?_)
    · obtain ⟨s3, s4, rfl, rfl⟩ := hI
      have hn := (List.getElem?_eq_some_iff.mp hx).1
      -- closed[levels] = True
      refine st_kput (m := 0) s ev_bl rfl rfl (ev_var rfl) (by omega) (fun g h s => ?_)
      exact hN _ _ _ _ _ ⟨_, _, rfl, by rw [take_foldl hx]; rfl⟩ s
    · obtain ⟨s3, s4, rfl, rfl⟩ := hI
      dsimp only
      rw [List.take_length] at s
      -- for levels in all_settings(tops):
      refine st_for_list tgt_name s (ev_call (ea_cons (ev_var rfl) ea_nil) ⟨_, rfl, ⟨hts.1, hts.2.2, by omega⟩, rfl⟩) (fun n e o => ∃ (m : Nat) (s3 s4 : Slot K), m ≤ 5000 + n ∧ e = [sv tops, sv told, sv (V.ref l), s3, s4] ∧ o = [(l, Own.keys (((allS tops.l).take n).foldl (stepB lowF) (toldS told.l)) m)]) ⟨_, _, _, hz, rfl, rfl⟩ (fun n x hx c hls e o g h σ N hI back s hN => ?_) (fun e o g h σ hI s => ?_)
      · obtain ⟨m, s3, s4, hm, rfl, rfl⟩ := hI
        have hx' := map_tup_get hx
        have hn := (List.getElem?_eq_some_iff.mp hx').1
        have hxl := allS_mem_len _ _ (List.mem_of_getElem? hx')
        generalize hS : ((allS tops.l).take n).foldl (stepB lowF) (toldS told.l) = S at s
        -- if any([lower in closed for lower in lowered(levels)]):
        refine st_if s (et_B (ev_any (EvN.ev (EvN.all (en_lcL (m := fun y : Tup Int => S y.l) tgt_name (ev_call (ea_cons (ev_var rfl) ea_nil) ⟨_, rfl, by rw [hxl]; exact hts.2.2, rfl⟩) (fun _ _ => et_yes) (fun y hy _ => (ev_kin (m := 0) (ev_var rfl) rfl rfl)) ?_))))) (fun hc g h s => ?_) (fun hc g h s => ?_)
        · unfold lowF
          rw [List.length_map, List.length_map]
          exact Nat.le_trans (List.length_filter_le _ _) (by rw [upto_len, hxl]; have := hts.2.2; omega)
        · rw [any_mk] at hc
          -- closed[levels] = True
          refine st_kput (m := 0) s ev_bl rfl rfl (ev_var rfl) (by omega) (fun g h s => ?_)
          exact hN _ _ _ _ _ ⟨m + 1, _, _, by omega, rfl, by rw [take_foldl hx', hS]; unfold stepB; rw [if_pos hc]; rfl⟩ s
        · rw [any_mk] at hc
          exact hN _ _ _ _ _ ⟨m, _, _, by omega, rfl, by rw [take_foldl hx', hS]; unfold stepB; rw [if_neg (by rw [hc]; exact Bool.false_ne_true)]⟩ s
      · obtain ⟨m, s3, s4, hm, rfl, rfl⟩ := hI
        dsimp only
        rw [List.length_map, List.take_length] at s
        obtain ⟨g', s⟩ := s.freezeK (i := 2) (m := 0) rfl rfl rfl
        -- return closed
        refine st_ret s (ev_var rfl) ?_
        exact fun v g h s r => fin v _ g h _ _ _ hP s r
theorem sc_closed_down : FnScope ["tops", "told", "closed", "levels", "higher"] ["tops", "told"] (defScope (topS 14)) := ⟨rfl, rfl, rfl, by decide +kernel, rfl, by decide +kernel, by decide +kernel⟩
theorem ok_closed_down (E : FX K mg) : Cal P w K mg base "closed_down" 3 ["tops", "told"] (SpR K (a_closed K downF)) := by
  refine E.cal 9 11 (st := topS 14) rfl rfl (fun _ _ _ _ _ _ us hl => match us, hl with | [_, _], _ => rfl) fun f fd F => okRD F sc_closed_down (fun xs P' h => ?_) (fun cdv Ar outer s0 H0 E0 hr xs P' h => ?_)
  · obtain ⟨_, _, rfl, _⟩ := h; rfl
  · obtain ⟨tops, told, rfl, ⟨hts, hz⟩, hP⟩ := h
    have hal := okT_len hts
    refine ⟨_, (pss_cons (ps_set (i := 2) sc_closed_down.nd rfl (.inr rfl) pe_dnewT)
    (pss_cons (ps_for PassesOwn.never rfl (pi_sq (pv 1)) (pg_name (i := 3) sc_closed_down.nd rfl (.inl rfl))
      (pss_one (ps_dput (hu_of hr) (pv 2) (pv 3) pe_bl rfl)))
    (pss_cons (ps_for PassesOwn.never rfl (pi_reversed (by rfl) (E.free 39) (pa_cons (pe_c (ok_all_settings E) (hr.mono (by decide)) rfl (pa_cons (pv 0) pa_nil)) pa_nil)) (pg_name (i := 3) sc_closed_down.nd rfl (.inl rfl))
      (pss_one (ps_if (pt_val (pe_callB (anyK K) (by rfl) (E.free 47) (by decide +kernel) (pa_cons (pe_lc (own := [("higher", 4)]) (g := gName 4) (tt := tYes) rfl sc_closed_down.nd (pi_listK K (pe_c (ok_raised E) (hr.mono (by decide)) rfl (pa_cons (pv 0) (pa_cons (pv 3) pa_nil)))) (blkOk_by (N := ["tops", "told", "closed", "levels", "higher"]) (sc := defScope (topS 14)) (own := [("higher", 4)]) (by decide +kernel)) (fun _ _ _ _ _ => (pg_name (i := 4) sc_closed_down.nd rfl (Or.inl rfl))) (fun _ _ _ _ _ => pts_nil) (fun _ _ _ _ _ => (pe_cmp (pc_din (hu_of hr) (pv 4) (pv 2))))) pa_nil))) (pss_one (ps_dput (hu_of hr) (pv 2) (pv 3) pe_bl rfl)) pss_nil)))
    (pss_one (ps_ret (pv 2)))))), fun g σ Q s fin => ?_⟩
    -- closed = {}
    refine st_newK s (fun l h s => ?_)
    -- for levels in told:
    refine st_for_sq tgt_name s (ev_var rfl) (fun n e o => ∃ s3 s4 : Slot K, e = [sv tops, sv told, sv (V.ref l), s3, s4] ∧ o = [(l, Own.keys ((told.l.take n).foldl (fun S x => addK S x.l) (fun _ => false)) n)]) ⟨_, _, rfl, rfl⟩ (fun n x hx c hls e o g h σ N hI back s hN => ?_) (fun e o g h σ hI s => ?_)
    · obtain ⟨s3, s4, rfl, rfl⟩ := hI
      have hn := (List.getElem?_eq_some_iff.mp hx).1
      refine st_kput (m := 0) s ev_bl rfl rfl (ev_var rfl) (by omega) (fun g h s => ?_)
      exact hN _ _ _ _ _ ⟨_, _, rfl, by rw [take_foldl hx]; rfl⟩ s
    · obtain ⟨s3, s4, rfl, rfl⟩ := hI
      dsimp only
      rw [List.take_length] at s
      -- for levels in reversed(all_settings(tops)):
      refine st_for_rev tgt_name s (ev_call (ea_cons (ev_var rfl) ea_nil) ⟨_, rfl, ⟨hts.1, hts.2.2, by omega⟩, rfl⟩) (fun n e o => ∃ (m : Nat) (s3 s4 : Slot K), m ≤ 5000 + n ∧ e = [sv tops, sv told, sv (V.ref l), s3, s4] ∧ o = [(l, Own.keys (((allS tops.l).reverse.take n).foldl (stepB (raiF tops.l)) (toldS told.l)) m)]) ⟨_, _, _, hz, rfl, rfl⟩ (fun n x hx c hls e o g h σ N hI back s hN => ?_) (fun e o g h σ hI s => ?_)
      · obtain ⟨m, s3, s4, hm, rfl, rfl⟩ := hI
        rw [← List.map_reverse] at hx
        have hx' := map_tup_get hx
        have hn := (List.getElem?_eq_some_iff.mp hx').1
        rw [List.length_reverse] at hn
        have hxl := allS_mem_len _ _ (List.mem_reverse.mp (List.mem_of_getElem? hx'))
        generalize hS : ((allS tops.l).reverse.take n).foldl (stepB (raiF tops.l)) (toldS told.l) = S at s
        -- if any([higher in closed for higher in raised(tops, levels)]):
        refine st_if s (et_B (ev_any (EvN.ev (EvN.all (en_lcL (m := fun y : Tup Int => S y.l) tgt_name (ev_call (ea_cons (ev_var rfl) (ea_cons (ev_var rfl) ea_nil)) ⟨_, _, rfl, ⟨by rw [hxl]; exact hts.2.2, hxl.symm⟩, rfl⟩) (fun _ _ => et_yes) (fun y hy _ => (ev_kin (m := 0) (ev_var rfl) rfl rfl)) ?_))))) (fun hc g h s => ?_) (fun hc g h s => ?_)
        · unfold raiF
          rw [List.length_map, List.length_map]
          exact Nat.le_trans (List.length_filter_le _ _) (by rw [upto_len, hxl]; have := hts.2.2; omega)
        · rw [any_mk] at hc
          refine st_kput (m := 0) s ev_bl rfl rfl (ev_var rfl) (by omega) (fun g h s => ?_)
          exact hN _ _ _ _ _ ⟨m + 1, _, _, by omega, rfl, by rw [take_foldl hx', hS]; unfold stepB; rw [if_pos hc]; rfl⟩ s
        · rw [any_mk] at hc
          exact hN _ _ _ _ _ ⟨m, _, _, by omega, rfl, by rw [take_foldl hx', hS]; unfold stepB; rw [if_neg (by rw [hc]; exact Bool.false_ne_true)]⟩ s
      · obtain ⟨m, s3, s4, hm, rfl, rfl⟩ := hI
        dsimp only
        rw [List.length_map, ← List.length_reverse, List.take_length] at s
        obtain ⟨g', s⟩ := s.freezeK (i := 2) (m := 0) rfl rfl rfl
        refine st_ret s (ev_var rfl) ?_
        exact fun v g h s r => fin v _ g h _ _ _ hP s r
/-! ### keepers, breakers -/
def keepF (ts : List Int) (told : List (Tup Int)) : List (List Int) := (allS ts).filter fun x => !(upF ts told x) && (raiF ts x).all (upF ts told)
def breakF (ts : List Int) (told : List (Tup Int)) : List (List Int) := (allS ts).filter fun x => !(downF ts told x) && (lowF x).all (downF ts told)
def a_ends (K : PySem.W.Frag) (F : List Int → List (Tup Int) → List (List Int)) : List (Slot K) → (Tup (Tup Int) → Prop) → (Addr → List (Str × Slot K) → Prop) → Prop := fun xs P PE => ∃ (ts : Tup Int) (told : Sq (Tup Int)), xs = [sv ts, sv told] ∧ ((∀ t ∈ ts.l, 0 ≤ t) ∧ prodF ts.l < 2 ^ 63 ∧ ts.l.length ≤ 1000 ∧ told.l.length ≤ 5000) ∧
  (prodF ts.l ≤ 4096 → P ⟨(F ts.l told.l).map Tup.mk⟩) ∧ (4096 < prodF ts.l → PE (inC K "TooLarge") (tooL K))
theorem filter_take2 {α : Type} {p : α → Bool} {xs : List α} {n : Nat} {x : α} (h : xs[n]? = some x) : (xs.take (n + 1)).filter p = (xs.take n).filter p ++ if p x = true then [x] else [] := filter_take1 h
theorem sc_keepers_of : FnScope ["tops", "breakers", "broken", "found", "levels", "higher"] ["tops", "breakers"] (defScope (topS 15)) := ⟨rfl, rfl, rfl, by decide +kernel, rfl, by decide +kernel, by decide +kernel⟩
theorem ok_keepers_of (E : FX K mg) (hPr : P = PySem.Challenge.pw_planyard_k14_closing_whole) : CalE P w K mg base "keepers_of" 4 ["tops", "breakers"] (SpE K (a_ends K keepF)) := by
  refine E.f.calE 10 12 (st := topS 15) rfl rfl (fun _ _ _ _ _ _ us hl => match us, hl with | [_, _], _ => rfl) fun f fd F => okED F sc_keepers_of (fun xs P' PE h => ?_) (fun cdv Ar outer s0 H0 E0 hr xs P' PE h => ?_)
  · obtain ⟨_, _, rfl, _⟩ := h; rfl
  · obtain ⟨tops, told, rfl, ⟨h0, h63, hz, ht⟩, hP, hE⟩ := h
    refine ⟨_, (pss_cons (ps_expr (pe_cE (ok_check_many E hPr) (hr.mono (by decide)) (L2N.takes_of rfl rfl rfl rfl) (fun _ _ _ _ z => z) rfl (pa_cons (pv 0) pa_nil)))
    (pss_cons (ps_set (i := 2) sc_keepers_of.nd rfl (.inr rfl) (pe_c (ok_closed_up E) (hr.mono (by decide)) rfl (pa_cons (pv 0) (pa_cons (pv 1) pa_nil))))
    (pss_cons (ps_set (i := 3) sc_keepers_of.nd rfl (.inl rfl) (pe_lst pa_nil))
    (pss_cons (ps_for (passes_of rfl) rfl (pi_listK K (pe_c (ok_all_settings E) (hr.mono (by decide)) rfl (pa_cons (pv 0) pa_nil))) (pg_name (i := 4) sc_keepers_of.nd rfl (.inl rfl))
      (pss_one (ps_if (PW.pt (pw_and (pt_cmp (pc_dnotin (hu_of hr) (pv 4) (pv 2))) (pw_and1 (pt_val (pe_callB (allK K) (by rfl) (E.free 50) (by decide +kernel) (pa_cons (pe_lc (own := [("higher", 5)]) (g := gName 5) (tt := tYes) rfl sc_keepers_of.nd (pi_listK K (pe_c (ok_raised E) (hr.mono (by decide)) rfl (pa_cons (pv 0) (pa_cons (pv 4) pa_nil)))) (blkOk_by (N := ["tops", "breakers", "broken", "found", "levels", "higher"]) (sc := defScope (topS 15)) (own := [("higher", 5)]) (by decide +kernel)) (fun _ _ _ _ _ => (pg_name (i := 5) sc_keepers_of.nd rfl (Or.inl rfl))) (fun _ _ _ _ _ => pts_nil) (fun _ _ _ _ _ => (pe_cmp (pc_din (hu_of hr) (pv 5) (pv 2))))) pa_nil)))))) (pss_one (ps_expr (pe_bm PySem.F.plainAttrs_list PySem.F.slot_list_append PySem.F.type_list_append mt_append (pv 3) (pa_cons (pv 4) pa_nil)))) pss_nil)))
    (pss_one (ps_ret (pe_callTy (tuple_ofK K) (by rfl) (E.free 40) (by decide +kernel) (pa_cons (pv 3) pa_nil)))))))), fun g σ Q s fin finE => ?_⟩
    -- check_many(tops)
    refine sE_call (P := fun _ => prodF tops.l ≤ 4096) (PE := fun C fs => C = inC K "TooLarge" ∧ fs = tooL K ∧ 4096 < prodF tops.l) s (ea_cons (ev_var rfl) ea_nil) ⟨_, rfl, ⟨h0, h63⟩, fun h => h, fun h => ⟨rfl, rfl, h⟩⟩ (fun v z g h hs s _ _ => ?_) (fun C fs d ws g h he s hd hf => ?_)
    · have hts : okT tops := ⟨h0, hs, hz⟩
      have hal := okT_len hts
      dsimp only
      refine st_set s (ev_call (ea_cons (ev_var rfl) (ea_cons (ev_var rfl) ea_nil)) ⟨_, _, rfl, ⟨hts, ht⟩, rfl⟩) (fun v g h s => ?_)
      -- found = []
      refine st_setN s (en_lst (el_nil (α := Tup Int)) (by decide)) (fun l g h s => ?_)
      generalize hU : upF tops.l told.l = U at s
      -- for levels in all_settings(tops):
      refine st_for_list tgt_name s (ev_call (ea_cons (ev_var rfl) ea_nil) ⟨_, rfl, ⟨hts.1, hts.2.2, by omega⟩, rfl⟩) (fun n e o => ∃ s4 s5 : Slot K, e = [sv tops, sv told, sv (KSet.mk U), sv (V.ref l), s4, s5] ∧ o = [(l, Own.lst K ((((allS tops.l).take n).filter fun x => !(U x) && (raiF tops.l x).all U).map Tup.mk))]) ⟨_, _, rfl, rfl⟩ (fun n x hx c hls e o g h σ N hI back s hN => ?_) (fun e o g h σ hI s => ?_)
      · obtain ⟨s4, s5, rfl, rfl⟩ := hI
        have hx' := map_tup_get hx
        have hn := (List.getElem?_eq_some_iff.mp hx').1
        have hxl := allS_mem_len _ _ (List.mem_of_getElem? hx')
        refine st_if s (et_and (et_B (ev_kninV (ev_var rfl) (ev_var rfl))) fun _ => (et_B (ev_all (EvN.ev (EvN.all (en_lcL (m := fun y : Tup Int => U y.l) tgt_name (ev_call (ea_cons (ev_var rfl) (ea_cons (ev_var rfl) ea_nil)) ⟨_, _, rfl, ⟨by rw [hxl]; exact hts.2.2, hxl.symm⟩, rfl⟩) (fun _ _ => et_yes) (fun y hy _ => (ev_kinV (ev_var rfl) (ev_var rfl))) ?_)))))) (fun hc g h s => ?_) (fun hc g h s => ?_)
        · unfold raiF
          rw [List.length_map, List.length_map]
          exact Nat.le_trans (List.length_filter_le _ _) (by rw [upto_len, hxl]; have := hts.2.2; omega)
        · rw [all_mk] at hc
          -- found.append(levels)
          refine st_append (m := 0) s rfl rfl ?_ (ev_var rfl) (fun g h s => ?_)
          · rw [List.length_map]
            exact Nat.lt_of_le_of_lt (Nat.le_trans (List.length_filter_le _ _) (by rw [List.length_take]; omega : _ ≤ 4096)) (by decide)
          · refine hN _ _ _ _ _ ⟨_, _, rfl, ?_⟩ s
            rw [filter_take2 hx', if_pos hc, List.map_append]
            rfl
        · rw [all_mk] at hc
          refine hN _ _ _ _ _ ⟨_, _, rfl, ?_⟩ s
          rw [filter_take2 hx', if_neg (by rw [hc]; exact Bool.false_ne_true), List.append_nil]
      · obtain ⟨s4, s5, rfl, rfl⟩ := hI
        dsimp only
        rw [List.length_map, List.take_length] at s
        -- return tuple(found)
        refine st_ret s (ev_tupleO (m := 0) rfl rfl) ?_
        refine fun v g h s r => fin v _ g h _ _ _ ?_ s r
        subst hU
        exact hP hs
    · obtain ⟨rfl, rfl, h4⟩ := he
      exact finE _ _ d ws g h _ _ _ (hE h4) s hd hf
theorem sc_breakers_of : FnScope ["tops", "keepers", "kept", "found", "levels", "lower"] ["tops", "keepers"] (defScope (topS 16)) := ⟨rfl, rfl, rfl, by decide +kernel, rfl, by decide +kernel, by decide +kernel⟩
theorem ok_breakers_of (E : FX K mg) (hPr : P = PySem.Challenge.pw_planyard_k14_closing_whole) : CalE P w K mg base "breakers_of" 4 ["tops", "keepers"] (SpE K (a_ends K breakF)) := by
  refine E.f.calE 11 13 (st := topS 16) rfl rfl (fun _ _ _ _ _ _ us hl => match us, hl with | [_, _], _ => rfl) fun f fd F => okED F sc_breakers_of (fun xs P' PE h => ?_) (fun cdv Ar outer s0 H0 E0 hr xs P' PE h => ?_)
  · obtain ⟨_, _, rfl, _⟩ := h; rfl
  · obtain ⟨tops, told, rfl, ⟨h0, h63, hz, ht⟩, hP, hE⟩ := h
    refine ⟨_, (pss_cons (ps_expr (pe_cE (ok_check_many E hPr) (hr.mono (by decide)) (L2N.takes_of rfl rfl rfl rfl) (fun _ _ _ _ z => z) rfl (pa_cons (pv 0) pa_nil)))
    (pss_cons (ps_set (i := 2) sc_breakers_of.nd rfl (.inr rfl) (pe_c (ok_closed_down E) (hr.mono (by decide)) rfl (pa_cons (pv 0) (pa_cons (pv 1) pa_nil))))
    (pss_cons (ps_set (i := 3) sc_breakers_of.nd rfl (.inl rfl) (pe_lst pa_nil))
    (pss_cons (ps_for (passes_of rfl) rfl (pi_listK K (pe_c (ok_all_settings E) (hr.mono (by decide)) rfl (pa_cons (pv 0) pa_nil))) (pg_name (i := 4) sc_breakers_of.nd rfl (.inl rfl))
      (pss_one (ps_if (PW.pt (pw_and (pt_cmp (pc_dnotin (hu_of hr) (pv 4) (pv 2))) (pw_and1 (pt_val (pe_callB (allK K) (by rfl) (E.free 50) (by decide +kernel) (pa_cons (pe_lc (own := [("lower", 5)]) (g := gName 5) (tt := tYes) rfl sc_breakers_of.nd (pi_listK K (pe_c (ok_lowered E) (hr.mono (by decide)) rfl (pa_cons (pv 4) pa_nil))) (blkOk_by (N := ["tops", "keepers", "kept", "found", "levels", "lower"]) (sc := defScope (topS 16)) (own := [("lower", 5)]) (by decide +kernel)) (fun _ _ _ _ _ => (pg_name (i := 5) sc_breakers_of.nd rfl (Or.inl rfl))) (fun _ _ _ _ _ => pts_nil) (fun _ _ _ _ _ => (pe_cmp (pc_din (hu_of hr) (pv 5) (pv 2))))) pa_nil)))))) (pss_one (ps_expr (pe_bm PySem.F.plainAttrs_list PySem.F.slot_list_append PySem.F.type_list_append mt_append (pv 3) (pa_cons (pv 4) pa_nil)))) pss_nil)))
    (pss_one (ps_ret (pe_callTy (tuple_ofK K) (by rfl) (E.free 40) (by decide +kernel) (pa_cons (pv 3) pa_nil)))))))), fun g σ Q s fin finE => ?_⟩
    -- check_many(tops)
    refine sE_call (P := fun _ => prodF tops.l ≤ 4096) (PE := fun C fs => C = inC K "TooLarge" ∧ fs = tooL K ∧ 4096 < prodF tops.l) s (ea_cons (ev_var rfl) ea_nil) ⟨_, rfl, ⟨h0, h63⟩, fun h => h, fun h => ⟨rfl, rfl, h⟩⟩ (fun v z g h hs s _ _ => ?_) (fun C fs d ws g h he s hd hf => ?_)
    · have hts : okT tops := ⟨h0, hs, hz⟩
      have hal := okT_len hts
      dsimp only
      refine st_set s (ev_call (ea_cons (ev_var rfl) (ea_cons (ev_var rfl) ea_nil)) ⟨_, _, rfl, ⟨hts, ht⟩, rfl⟩) (fun v g h s => ?_)
      -- found = []
      refine st_setN s (en_lst (el_nil (α := Tup Int)) (by decide)) (fun l g h s => ?_)
      generalize hU : downF tops.l told.l = U at s
      -- for levels in all_settings(tops):
      refine st_for_list tgt_name s (ev_call (ea_cons (ev_var rfl) ea_nil) ⟨_, rfl, ⟨hts.1, hts.2.2, by omega⟩, rfl⟩) (fun n e o => ∃ s4 s5 : Slot K, e = [sv tops, sv told, sv (KSet.mk U), sv (V.ref l), s4, s5] ∧ o = [(l, Own.lst K ((((allS tops.l).take n).filter fun x => !(U x) && (lowF x).all U).map Tup.mk))]) ⟨_, _, rfl, rfl⟩ (fun n x hx c hls e o g h σ N hI back s hN => ?_) (fun e o g h σ hI s => ?_)
      · obtain ⟨s4, s5, rfl, rfl⟩ := hI
        have hx' := map_tup_get hx
        have hn := (List.getElem?_eq_some_iff.mp hx').1
        have hxl := allS_mem_len _ _ (List.mem_of_getElem? hx')
        refine st_if s (et_and (et_B (ev_kninV (ev_var rfl) (ev_var rfl))) fun _ => (et_B (ev_all (EvN.ev (EvN.all (en_lcL (m := fun y : Tup Int => U y.l) tgt_name (ev_call (ea_cons (ev_var rfl) ea_nil) ⟨_, rfl, by rw [hxl]; exact hts.2.2, rfl⟩) (fun _ _ => et_yes) (fun y hy _ => (ev_kinV (ev_var rfl) (ev_var rfl))) ?_)))))) (fun hc g h s => ?_) (fun hc g h s => ?_)
        · unfold lowF
          rw [List.length_map, List.length_map]
          exact Nat.le_trans (List.length_filter_le _ _) (by rw [upto_len, hxl]; have := hts.2.2; omega)
        · rw [all_mk] at hc
          -- found.append(levels)
          refine st_append (m := 0) s rfl rfl ?_ (ev_var rfl) (fun g h s => ?_)
          · rw [List.length_map]
            exact Nat.lt_of_le_of_lt (Nat.le_trans (List.length_filter_le _ _) (by rw [List.length_take]; omega : _ ≤ 4096)) (by decide)
          · refine hN _ _ _ _ _ ⟨_, _, rfl, ?_⟩ s
            rw [filter_take2 hx', if_pos hc, List.map_append]
            rfl
        · rw [all_mk] at hc
          refine hN _ _ _ _ _ ⟨_, _, rfl, ?_⟩ s
          rw [filter_take2 hx', if_neg (by rw [hc]; exact Bool.false_ne_true), List.append_nil]
      · obtain ⟨s4, s5, rfl, rfl⟩ := hI
        dsimp only
        rw [List.length_map, List.take_length] at s
        -- return tuple(found)
        refine st_ret s (ev_tupleO (m := 0) rfl rfl) ?_
        refine fun v g h s r => fin v _ g h _ _ _ ?_ s r
        subst hU
        exact hP hs
    · obtain ⟨rfl, rfl, h4⟩ := he
      exact finE _ _ d ws g h _ _ _ (hE h4) s hd hf

end K14
namespace K14
open PySem PySem.Spec PyProof.Rows L2 Lw RZ
variable {P : Program} {w : World} {K : PySem.W.Frag} {mg : Str → Option Value} {base : Heap}
def uncF (ts : List Int) (br kp : List (Tup Int)) : Option (List Int) := (allS ts).find? fun x => !(upF ts br x) && !(downF ts kp x)
def a_unc (K : PySem.W.Frag) : List (Slot K) → (Option (Tup Int) → Prop) → (Addr → List (Str × Slot K) → Prop) → Prop := fun xs P PE => ∃ (ts : Tup Int) (br kp : Sq (Tup Int)), xs = [sv ts, sv br, sv kp] ∧ ((∀ t ∈ ts.l, 0 ≤ t) ∧ prodF ts.l < 2 ^ 63 ∧ ts.l.length ≤ 1000 ∧ br.l.length ≤ 5000 ∧ kp.l.length ≤ 5000) ∧
  (prodF ts.l ≤ 4096 → P ((uncF ts.l br.l kp.l).map Tup.mk)) ∧ (4096 < prodF ts.l → PE (inC K "TooLarge") (tooL K))
theorem find_none_take {α : Type} {p : α → Bool} {xs : List α} {n : Nat} {x : α} (h : xs[n]? = some x) (h0 : (xs.take n).find? p = none) (hx : p x = false) : (xs.take (n + 1)).find? p = none := by
  rw [List.take_add_one, h, List.find?_append, h0]
  simp [hx]
theorem find_at {α : Type} {p : α → Bool} {xs : List α} {n : Nat} {x : α} (h : xs[n]? = some x) (h0 : (xs.take n).find? p = none) (hx : p x = true) : xs.find? p = some x := by
  have e : xs = xs.take n ++ xs.drop n := (List.take_append_drop n xs).symm
  obtain ⟨hn, hx'⟩ := List.getElem?_eq_some_iff.mp h
  rw [e, List.find?_append, h0, List.drop_eq_getElem_cons hn, hx', List.find?_cons_of_pos hx]
  rfl
theorem sc_uncovered : FnScope ["tops", "breakers", "keepers", "broken", "kept", "levels"] ["tops", "breakers", "keepers"] (defScope (topS 17)) := ⟨rfl, rfl, rfl, by decide +kernel, rfl, by decide +kernel, by decide +kernel⟩
theorem ok_uncovered (E : FX K mg) (hPr : P = PySem.Challenge.pw_planyard_k14_closing_whole) : CalE P w K mg base "uncovered" 4 ["tops", "breakers", "keepers"] (SpE K (a_unc K)) := by
  refine E.f.calE 12 14 (st := topS 17) rfl rfl (fun _ _ _ _ _ _ us hl => match us, hl with | [_, _, _], _ => rfl) fun f fd F => okED F sc_uncovered (fun xs P' PE h => ?_) (fun cdv Ar outer s0 H0 E0 hr xs P' PE h => ?_)
  · obtain ⟨_, _, _, rfl, _⟩ := h; rfl
  · obtain ⟨tops, br, kp, rfl, ⟨h0, h63, hz, hb, hk⟩, hP, hE⟩ := h
    refine ⟨_, (pss_cons (ps_expr (pe_cE (ok_check_many E hPr) (hr.mono (by decide)) (L2N.takes_of rfl rfl rfl rfl) (fun _ _ _ _ z => z) rfl (pa_cons (pv 0) pa_nil)))
    (pss_cons (ps_set (i := 3) sc_uncovered.nd rfl (.inl rfl) (pe_c (ok_closed_up E) (hr.mono (by decide)) rfl (pa_cons (pv 0) (pa_cons (pv 1) pa_nil))))
    (pss_cons (ps_set (i := 4) sc_uncovered.nd rfl (.inl rfl) (pe_c (ok_closed_down E) (hr.mono (by decide)) rfl (pa_cons (pv 0) (pa_cons (pv 2) pa_nil))))
    (pss_cons (ps_for (passes_of rfl) rfl (pi_listK K (pe_c (ok_all_settings E) (hr.mono (by decide)) rfl (pa_cons (pv 0) pa_nil))) (pg_name (i := 5) sc_uncovered.nd rfl (.inl rfl))
      (pss_one (ps_if (PW.pt (pw_and (pt_cmp (pc_dnotin (hu_of hr) (pv 5) (pv 3))) (pw_and1 (pt_cmp (pc_dnotin (hu_of hr) (pv 5) (pv 4)))))) (pss_one (ps_ret (pv 5))) pss_nil)))
    (pss_one (ps_ret pe_non)))))), fun g σ Q s fin finE => ?_⟩
    -- check_many(tops)
    refine sE_call (P := fun _ => prodF tops.l ≤ 4096) (PE := fun C fs => C = inC K "TooLarge" ∧ fs = tooL K ∧ 4096 < prodF tops.l) s (ea_cons (ev_var rfl) ea_nil) ⟨_, rfl, ⟨h0, h63⟩, fun h => h, fun h => ⟨rfl, rfl, h⟩⟩ (fun v z g h hs s _ _ => ?_) (fun C fs d ws g h he s hd hf => ?_)
    · have hts : okT tops := ⟨h0, hs, hz⟩
      have hal := okT_len hts
      dsimp only
      refine st_set s (ev_call (ea_cons (ev_var rfl) (ea_cons (ev_var rfl) ea_nil)) ⟨_, _, rfl, ⟨hts, hb⟩, rfl⟩) (fun v g h s => ?_)
      refine st_set s (ev_call (ea_cons (ev_var rfl) (ea_cons (ev_var rfl) ea_nil)) ⟨_, _, rfl, ⟨hts, hk⟩, rfl⟩) (fun v g h s => ?_)
      generalize hU : upF tops.l br.l = U at s
      generalize hD : downF tops.l kp.l = D at s
      have hP' := hP hs
      unfold uncF at hP'
      rw [hU, hD] at hP'
      -- for levels in all_settings(tops):
      refine st_for_list tgt_name s (ev_call (ea_cons (ev_var rfl) ea_nil) ⟨_, rfl, ⟨hts.1, hts.2.2, by omega⟩, rfl⟩) (fun n e o => ∃ s5 : Slot K, e = [sv tops, sv br, sv kp, sv (KSet.mk U), sv (KSet.mk D), s5] ∧ o = [] ∧ ((allS tops.l).take n).find? (fun x => !(U x) && !(D x)) = none) ⟨_, rfl, rfl, rfl⟩ (fun n x hx c hls e o g h σ N hI back s hN => ?_) (fun e o g h σ hI s => ?_)
      · obtain ⟨s5, rfl, rfl, hnone⟩ := hI
        have hx' := map_tup_get hx
        -- if levels not in broken and levels not in kept:
        refine st_if s (et_and (et_B (ev_kninV (ev_var rfl) (ev_var rfl))) fun _ => (et_B (ev_kninV (ev_var rfl) (ev_var rfl)))) (fun hc g h s => ?_) (fun hc g h s => ?_)
        · -- return levels
          refine st_ret s (ev_var rfl) ?_
          refine fun v g h s r => fin v (some x) g h _ _ _ ?_ (back s) ⟨?_, r⟩
          · rw [find_at hx' hnone hc] at hP'
            exact hP'
          · obtain ⟨a, vs, e1, _⟩ := r
            rw [e1]
            exact fun z => nomatch z
        · exact hN _ _ _ _ _ ⟨_, rfl, rfl, find_none_take hx' hnone hc⟩ s
      · obtain ⟨s5, rfl, rfl, hnone⟩ := hI
        dsimp only
        rw [List.length_map, List.take_length] at hnone
        -- return None
        refine st_ret s (ev_noneO (α := Tup Int)) ?_
        refine fun v g h s r => fin v none g h _ _ _ ?_ s r
        rw [hnone] at hP'
        exact hP'
    · obtain ⟨rfl, rfl, h4⟩ := he
      exact finE _ _ d ws g h _ _ _ (hE h4) s hd hf
end K14
namespace K14
open PySem PySem.Spec PyProof.Rows L2 Lw RZ
variable {P : Program} {w : World} {K : PySem.W.Frag} {mg : Str → Option Value} {base : Heap}
/-! ### the bag -/
def okB (xs : List Int) : Prop := 4 ≤ xs.length ∧ 0 ≤ xs.getD 0 0
def Bag (K : PySem.W.Frag) : Own := Own.ex okB (Own.lst K)
theorem okB_set {xs : List Int} (h : okB xs) {i : Nat} {v : Int} (hi : i ≠ 0 ∨ 0 ≤ v) : okB (xs.set i v) := by
  refine ⟨by rw [List.length_set]; exact h.1, ?_⟩
  by_cases e : i = 0
  · subst e
    rw [getD_set_eq (by have := h.1; omega)]
    exact hi.resolve_left (fun z => z rfl)
  · rw [getD_set_ne e]; exact h.2
def a_bag (K : PySem.W.Frag) : List (Slot K) → Os → (V → Os → Prop) → Prop := fun xs os P => ∃ script : List Int, xs = [sv script] ∧ os = [] ∧ ∀ l, P (V.ref l) [(l, Bag K)]
theorem cut63 {xs : List Int} : (cut xs none (some 63)).length ≤ 63 := by
  unfold cut
  rw [List.length_take]
  have : HT.sIx xs.length xs.length (some 63) ≤ 63 := by
    unfold HT.sIx
    simp
    omega
  omega
theorem sc_law_bag : FnScope ["script", "cells", "cell", "seed"] ["script"] (defScope (topS 19)) := ⟨rfl, rfl, rfl, by decide +kernel, rfl, by decide +kernel, by decide +kernel⟩
theorem ok_law_bag (E : FX K mg) : Cal P w K mg base "_law_bag" 1 ["script"] (SpW K (a_bag K)) := by
  refine E.cal 13 15 (st := topS 19) rfl rfl (fun _ _ _ _ _ _ us hl => match us, hl with | [_], _ => rfl) fun f fd F => okWD F sc_law_bag (fun xs os P' h => ?_) (fun cdv Ar outer s0 H0 E0 hr xs os P' h => ?_)
  · obtain ⟨_, rfl, _⟩ := h; rfl
  · obtain ⟨script, rfl, rfl, hP⟩ := h
    refine ⟨_, (pss_cons (ps_setLc (i := 1) (own := [("cell", 2)]) (g := gName 2) (tt := tYes) rfl sc_law_bag.nd rfl rfl (sw_true rfl rfl rfl (by decide +kernel)) (pi_listK K (pe_slice (sl_listK K) (pv 0) po_none (po_some pe_int))) (blkOk_by (N := ["script", "cells", "cell", "seed"]) (sc := defScope (topS 19)) (own := [("cell", 2)]) (by decide +kernel)) (fun _ _ _ _ _ => (pg_name (i := 2) sc_law_bag.nd rfl (Or.inl rfl))) (fun _ _ _ _ _ => pts_nil) (fun _ _ _ _ _ => (pe_callTy call_int1 (by rfl) (E.free 48) (by decide +kernel) (pa_cons (pv 2) pa_nil))))
    (pss_cons (ps_set (i := 3) sc_law_bag.nd rfl (.inl rfl) pe_int)
    (pss_cons (ps_for PassesOwn.never rfl (pi_listK K (pv 1)) (pg_name (i := 2) sc_law_bag.nd rfl (.inl rfl))
      (pss_one (ps_set (i := 3) sc_law_bag.nd rfl (.inl rfl) (pe_op op_mod (pe_callTy call_int1 (by rfl) (E.free 48) (by decide +kernel) (pa_cons (pe_op op_add (pe_op op_mul (pv 3) pe_int) (pv 2)) pa_nil)) pe_int))))
    (pss_one (ps_ret (pe_op op_cat (pe_lst (pa_cons pe_int (pa_cons pe_int (pa_cons pe_int (pa_cons (pv 3) pa_nil))))) (pv 1))))))), fun g σ Q s fin => ?_⟩
    have h63 := cut63 (xs := script)
    -- cells = [int(cell) for cell in script[:63]]
    refine st_set s (EvN.evS (EvN.all (en_lcL (m := fun x : Int => x) tgt_name (ev_slL (ev_var rfl) eo_none (eo_some ev_int)) (fun _ _ => et_yes) (fun x hx _ => (ev_intI (ev_var rfl))) (by omega)))) (fun v g h s => ?_)
    generalize hc : (cut script none (some 63)).map (fun x : Int => x) = cells at s
    have hcl : cells.length ≤ 63 := by rw [← hc, List.length_map]; exact h63
    clear hc
    try dsimp only
    -- seed = 17
    refine st_set s ev_int (fun v g h s => ?_)
    -- for cell in cells:
    refine st_for_list tgt_name s (ev_weakS (xs := SL.mk cells) (ev_var rfl)) (fun n e o => ∃ (s2 : Slot K) (seed : Int), e = [sv script, sv (SL.mk cells), s2, sv seed] ∧ o = []) ⟨_, _, rfl, rfl⟩ (fun n x hx c hls e o g h σ N hI back s hN => ?_) (fun e o g h σ hI s => ?_)
    · obtain ⟨s2, seed, rfl, rfl⟩ := hI
      refine st_set s (ev_iC (ev_intI (ev_i2 (ev_iC (ev_var rfl) ev_int (by exact .inr ⟨by decide, by decide⟩)) (ev_var rfl))) ev_int (by decide)) (fun v g h s => ?_)
      exact hN _ _ _ _ _ ⟨sv x, _, rfl, rfl⟩ s
    · obtain ⟨s2, seed, rfl, rfl⟩ := hI
      dsimp only
      -- return [4, 0, 0, seed] + cells
      refine st_retN s (en_cat (EvN.held (en_lst (el_cons ev_int (el_cons ev_int (el_cons ev_int (el_cons (ev_var rfl) el_nil)))) (by simp))) (eh_S (xs := SL.mk cells) (ev_var rfl)) (by simp; omega)) (fun l g h s => ?_)
      have s := s.closed (m := 0) (ok := okB) (W := Own.lst K) rfl ⟨by simp, (by decide : (0 : Int) ≤ 4)⟩
      exact fin (V.ref l) (V.ref l) g h _ _ _ _ (hP l) (fun p hp => hp) s (by simp) rfl
def a_mixed (K : PySem.W.Frag) : List (Slot K) → (Int → Prop) → Prop := fun xs P => ∃ n c z : Int, xs = [sv n, sv c, sv z] ∧ (0 < z ∧ z ≤ 100000000) ∧ ∀ r, 0 ≤ r → r < z → P r
theorem sc_law_mixed : FnScope ["number", "count", "size", "once", "twice"] ["number", "count", "size"] (defScope (topS 20)) := ⟨rfl, rfl, rfl, by decide +kernel, rfl, by decide +kernel, by decide +kernel⟩
theorem ok_law_mixed (E : FX K mg) : Cal P w K mg base "_law_mixed" 1 ["number", "count", "size"] (SpR K (a_mixed K)) := by
  refine E.cal 14 16 (st := topS 20) rfl rfl (fun _ _ _ _ _ _ us hl => match us, hl with | [_, _, _], _ => rfl) fun f fd F => okRD F sc_law_mixed (fun xs P' h => ?_) (fun cdv Ar outer s0 H0 E0 hr xs P' h => ?_)
  · obtain ⟨_, _, _, rfl, _⟩ := h; rfl
  · obtain ⟨n, c, z, rfl, ⟨hz, hz1⟩, hP⟩ := h
    refine ⟨_, (pss_cons (ps_set (i := 3) sc_law_mixed.nd rfl (.inl rfl) (pe_op op_mod (pe_callTy call_int1 (by rfl) (E.free 48) (by decide +kernel) (pa_cons (pe_op op_add (pe_op op_add (pe_op op_mul (pv 0) pe_int) (pe_op op_mul (pv 1) pe_int)) pe_int) pa_nil)) pe_int))
    (pss_cons (ps_set (i := 4) sc_law_mixed.nd rfl (.inl rfl) (pe_op op_mod (pe_callTy call_int1 (by rfl) (E.free 48) (by decide +kernel) (pa_cons (pe_op op_add (pe_op op_mul (pv 3) (pv 3)) (pv 1)) pa_nil)) pe_int))
    (pss_one (ps_ret (pe_op op_mod (pe_callTy call_int1 (by rfl) (E.free 48) (by decide +kernel) (pa_cons (pe_op op_fdiv (pe_op op_mod (pe_callTy call_int1 (by rfl) (E.free 48) (by decide +kernel) (pa_cons (pe_op op_add (pe_op op_add (pe_op op_mul (pv 4) (pv 4)) (pe_op op_mul (pv 1) pe_int)) pe_int) pa_nil)) pe_int) pe_int) pa_nil)) (pv 2)))))), fun g σ Q s fin => ?_⟩
    refine st_setQ (fun x : Int => 0 ≤ x ∧ x < 2147483647) s (ev_iC (ev_intI (ev_i2 (ev_i2 (ev_iC (ev_var rfl) ev_int (by exact .inr ⟨by decide, by decide⟩)) (ev_iC (ev_var rfl) ev_int (by exact .inr ⟨by decide, by decide⟩))) ev_int)) ev_int (by decide)) (mod_bd (by decide)) (fun x hx v g h s => ?_)
    refine st_setQ (fun x : Int => 0 ≤ x ∧ x < 2147483629) s (ev_iC (ev_intI (ev_i2 (ev_iC (ev_var rfl) (ev_var rfl) (by exact .inl ⟨by omega, by omega⟩)) (ev_var rfl))) ev_int (by decide)) (mod_bd (by decide)) (fun y hy v g h s => ?_)
    refine st_ret s (ev_iC (ev_intI (ev_iC (ev_iC (ev_intI (ev_i2 (ev_i2 (ev_iC (ev_var rfl) (ev_var rfl) (by exact .inl ⟨by omega, by omega⟩)) (ev_iC (ev_var rfl) ev_int (by exact .inr ⟨by decide, by decide⟩))) ev_int)) ev_int (by decide)) ev_int (by exact ⟨by decide, by decide⟩))) (ev_var rfl) (by exact hz)) ?_
    exact fun v g h s r => fin v _ g h _ _ _ (hP _ (Int.emod_nonneg _ (by omega)) (Int.emod_lt_of_pos _ hz)) s r
theorem sc_law_take : FnScope ["bag", "size", "number", "cell"] ["bag", "size"] (defScope (topS 21)) := ⟨rfl, rfl, rfl, by decide +kernel, rfl, by decide +kernel, by decide +kernel⟩
theorem ok_law_take (E : FX K mg) : Cal P w K mg base "_law_take" 2 ["bag", "size"] (SpW K (a_take K (Bag K) 100000000)) := by
  refine E.cal 15 17 (st := topS 21) rfl rfl (fun _ _ _ _ _ _ us hl => match us, hl with | [_, _], _ => rfl) fun f fd F => okWD F sc_law_take (fun xs os P' h => ?_) (fun cdv Ar outer s0 H0 E0 hr xs os P' h => ?_)
  · obtain ⟨_, _, rfl, _⟩ := h; rfl
  · obtain ⟨l, size, rfl, rfl, ⟨hs0, hs1⟩, hP⟩ := h
    refine ⟨_, (pss_cons (ps_asg (pe_op op_add (pe_ix (ix_listK K) (pv 0) pe_int (fun _ _ => rfl)) pe_int) (pg_sub (pv 0) pe_int set_list))
    (pss_cons (ps_if (pt_cmpR op_gt (pe_ix (ix_listK K) (pv 0) pe_int (fun _ _ => rfl)) pe_int (nomark _)) (pss_cons (ps_set (i := 2) sc_law_take.nd rfl (.inl rfl) (pe_op op_mod (pe_callTy call_int1 (by rfl) (E.free 48) (by decide +kernel) (pa_cons (pe_ix (ix_listK K) (pv 0) pe_int (fun _ _ => rfl)) pa_nil)) (pv 1)))
    (pss_cons (ps_asg (pe_op op_fdiv (pe_ix (ix_listK K) (pv 0) pe_int (fun _ _ => rfl)) (pv 1)) (pg_sub (pv 0) pe_int set_list))
    (pss_one (ps_ret (pv 2))))) pss_nil)
    (pss_cons (ps_if (pt_cmpR op_lt (pe_ix (ix_listK K) (pv 0) pe_int (fun _ _ => rfl)) (pe_callB (len_seqK K) (by rfl) (E.free 46) (by decide +kernel) (pa_cons (pv 0) pa_nil)) (nomark _)) (pss_cons (ps_set (i := 3) sc_law_take.nd rfl (.inl rfl) (pe_ix (ix_listK K) (pv 0) (pe_ix (ix_listK K) (pv 0) pe_int (fun _ _ => rfl)) (fun _ _ => rfl)))
    (pss_cons (ps_asg (pe_op op_add (pe_ix (ix_listK K) (pv 0) pe_int (fun _ _ => rfl)) pe_int) (pg_sub (pv 0) pe_int set_list))
    (pss_cons (ps_if (pt_cmpR op_ge (pe_callB call_abs (by rfl) (E.free 51) (by decide +kernel) (pa_cons (pv 3) pa_nil)) (pe_op op_pow pe_int pe_int) (nomark _)) (pss_cons (ps_asg (pe_op op_fdiv (pe_callB call_abs (by rfl) (E.free 51) (by decide +kernel) (pa_cons (pv 3) pa_nil)) (pv 1)) (pg_sub (pv 0) pe_int set_list))
    (pss_one (ps_ret (pe_op op_mod (pe_callTy call_int1 (by rfl) (E.free 48) (by decide +kernel) (pa_cons (pe_callB call_abs (by rfl) (E.free 51) (by decide +kernel) (pa_cons (pv 3) pa_nil)) pa_nil)) (pv 1))))) pss_nil)
    (pss_one (ps_ret (pe_c (ok_law_mixed E) (hr.mono (by decide)) rfl (pa_cons (pv 3) (pa_cons (pe_ix (ix_listK K) (pv 0) pe_int (fun _ _ => rfl)) (pa_cons (pv 1) pa_nil))))))))) pss_nil)
    (pss_one (ps_ret (pe_c (ok_law_mixed E) (hr.mono (by decide)) rfl (pa_cons (pe_ix (ix_listK K) (pv 0) pe_int (fun _ _ => rfl)) (pa_cons (pe_ix (ix_listK K) (pv 0) pe_int (fun _ _ => rfl)) (pa_cons (pv 1) pa_nil))))))))), fun g σ Q s fin => ?_⟩
    obtain ⟨xs, hx, s⟩ := s.opened (m := 0) rfl
    have fin2 : ∀ v (z : Int) g' h' σ' env' (xs : List Int), okB xs → 0 ≤ z → z < size → S0 ⟨[(l, Bag K)].map (·.1), g, H0⟩ g' h' σ' (env' : Lw.Env K) [(l, Own.lst K xs)] → v = V.int z → Q v h' := fun v z g' h' σ' env' xs hp h0 h1 s r =>
      fin v z g' h' σ' env' _ _ (hP z h0 h1) (fun q hq => hq) (s.closed (m := 0) (ok := okB) (W := Own.lst K) rfl hp) (by simp) r
    have hz : (0 : Int) < size ∧ size < 1073741824 := ⟨hs0, by omega⟩
    -- bag[2] = bag[2] + 1
    refine st_setO (m := 0) (n := 2) s (ev_i2 (ev_bag (m := 0) 2 rfl rfl (by have := hx.1; omega)) ev_int) rfl rfl ev_int (by decide) (by have := hx.1; omega) (fun g h s => ?_)
    have hy := okB_set hx (i := 2) (v := xs.getD 2 0 + 1) (.inl (by decide))
    dsimp only [List.set] at s
    rw [show (2 : Int).toNat = 2 from rfl] at s
    generalize xs.set 2 (xs.getD 2 0 + 1) = ys at s hy
    have hy4 := hy.1
    try dsimp only
    -- if bag[1] > 0:
    refine st_if s (et_test (ev_ib (ev_bag (m := 0) 1 rfl rfl (by omega)) ev_int)) (fun hc g h s => ?_) (fun hc g h s => ?_)
    · refine st_set s (ev_iC (ev_intI (ev_bag (m := 0) 1 rfl rfl (by omega))) (ev_var rfl) (by exact hs0)) (fun v g h s => ?_)
      refine st_setO (m := 0) (n := 1) s (ev_iC (ev_bag (m := 0) 1 rfl rfl (by omega)) (ev_var rfl) (by exact hz)) rfl rfl ev_int (by decide) (by omega) (fun g h s => ?_)
      refine st_ret s (ev_var rfl) ?_
      exact fun v g h s r => fin2 v _ g h _ _ _ (okB_set hy (.inl (by decide))) (Int.emod_nonneg _ (by omega)) (Int.emod_lt_of_pos _ hs0) s r
    · dsimp only [tNext]
      -- if bag[0] < len(bag):
      refine st_if s (et_test (ev_ib (ev_bag (m := 0) 0 rfl rfl (by omega)) (ev_lenO (m := 0) rfl rfl))) (fun hc g h s => ?_) (fun hc g h s => ?_)
      · have hc' : ys.getD 0 0 < ys.length := of_decide_eq_true hc
        refine st_set s (ev_ixO (m := 0) rfl rfl (ev_bag (m := 0) 0 rfl rfl (by omega)) (atI_getD (d := 0) hy.2 hc')) (fun v g h s => ?_)
        generalize ys.getD (ys.getD 0 0).toNat 0 = cell at s
        -- bag[0] = bag[0] + 1
        refine st_setO (m := 0) (n := 0) s (ev_i2 (ev_bag (m := 0) 0 rfl rfl (by omega)) ev_int) rfl rfl ev_int (by decide) (by omega) (fun g h s => ?_)
        have hw := okB_set hy (i := 0) (v := ys.getD 0 0 + 1) (.inr (by have := hy.2; omega))
        dsimp only [List.set] at s
        rw [show (0 : Int).toNat = 0 from rfl] at s
        generalize ys.set 0 (ys.getD 0 0 + 1) = ws at s hw
        have hw4 := hw.1
        -- if abs(cell) >= 10 ** 18:
        refine st_if s (et_test (ev_ib (ev_abs (ev_var rfl)) (ev_iC ev_int ev_int (by exact ⟨by decide, by decide, by decide⟩)))) (fun hc g h s => ?_) (fun hc g h s => ?_)
        · refine st_setO (m := 0) (n := 1) s (ev_iC (ev_abs (ev_var rfl)) (ev_var rfl) (by exact hz)) rfl rfl ev_int (by decide) (by omega) (fun g h s => ?_)
          refine st_ret s (ev_iC (ev_intI (ev_abs (ev_var rfl))) (ev_var rfl) (by exact hs0)) ?_
          exact fun v g h s r => fin2 v _ g h _ _ _ (okB_set hw (.inl (by decide))) (Int.emod_nonneg _ (by omega)) (Int.emod_lt_of_pos _ hs0) s r
        · dsimp only [tNext]
          exact s_call (P := fun r => 0 ≤ r ∧ r < size) s (ea_cons (ev_var rfl) (ea_cons (ev_bag (m := 0) 2 rfl rfl (by omega)) (ea_cons (ev_var rfl) ea_nil))) ⟨_, _, _, rfl, ⟨hs0, hs1⟩, fun r h0 h1 => ⟨h0, h1⟩⟩ fun v z g h hz s _ r => fin2 v z g h _ _ _ hw hz.1 hz.2 s r
      · dsimp only [tNext]
        exact s_call (P := fun r => 0 ≤ r ∧ r < size) s (ea_cons (ev_bag (m := 0) 3 rfl rfl (by omega)) (ea_cons (ev_bag (m := 0) 2 rfl rfl (by omega)) (ea_cons (ev_var rfl) ea_nil))) ⟨_, _, _, rfl, ⟨hs0, hs1⟩, fun r h0 h1 => ⟨h0, h1⟩⟩ fun v z g h hz s _ r => fin2 v z g h _ _ _ hy hz.1 hz.2 s r
end K14
namespace K14
open PySem PySem.Spec PyProof.Rows L2 Lw RZ
variable {P : Program} {w : World} {K : PySem.W.Frag} {mg : Str → Option Value} {base : Heap}
theorem below_cons {a b : Int} {xs ys : List Int} : belowB (a :: xs) (b :: ys) = (decide (a ≤ b) && belowB xs ys) := rfl
theorem below_all : ∀ (xs ys : List Int), xs.length = ys.length → (belowB xs ys = true ↔ ∀ k, k < xs.length → xs.getD k 0 ≤ ys.getD k 0)
  | [], [], _ => ⟨fun _ k hk => absurd hk (Nat.not_lt_zero _), fun _ => rfl⟩
  | a :: xs, b :: ys, h => by
    have ih := below_all xs ys (by simpa using h)
    rw [below_cons, Bool.and_eq_true, decide_eq_true_iff, ih]
    constructor
    · rintro ⟨h1, h2⟩ k hk
      cases k with
      | zero => exact h1
      | succ k => exact h2 k (by simpa using hk)
    · intro q
      exact ⟨q 0 (by simp), fun k hk => q (k + 1) (by simpa using hk)⟩
def a_low (K : PySem.W.Frag) : List (Slot K) → (Bool → Prop) → Prop := fun xs P => ∃ low high : Tup Int, xs = [sv low, sv high] ∧ (low.l.length = high.l.length ∧ low.l.length ≤ 1000) ∧ P (belowB low.l high.l)
theorem sc_law_low : FnScope ["low", "high", "k"] ["low", "high"] (defScope (topS 23)) := ⟨rfl, rfl, rfl, by decide +kernel, rfl, by decide +kernel, by decide +kernel⟩
theorem ok_law_low (E : FX K mg) : Cal P w K mg base "_law_low" 1 ["low", "high"] (SpR K (a_low K)) := by
  refine E.cal 17 19 (st := topS 23) rfl rfl (fun _ _ _ _ _ _ us hl => match us, hl with | [_, _], _ => rfl) fun f fd F => okRD F sc_law_low (fun xs P' h => ?_) (fun cdv Ar outer s0 H0 E0 hr xs P' h => ?_)
  · obtain ⟨_, _, rfl, _⟩ := h; rfl
  · obtain ⟨low, high, rfl, ⟨hl, hz⟩, hP⟩ := h
    refine ⟨_, (pss_cons (ps_for PassesOwn.never rfl (pi_range1 rfl (E.free 43) (pa_cons (pe_callB (len_seqK K) (by rfl) (E.free 46) (by decide +kernel) (pa_cons (pv 0) pa_nil)) pa_nil)) (pg_name (i := 2) sc_law_low.nd rfl (.inl rfl))
      (pss_one (ps_if (pt_cmpR op_gt (pe_ix (ix_tupK K) (pv 0) (pv 2) (fun _ _ => rfl)) (pe_ix (ix_tupK K) (pv 1) (pv 2) (fun _ _ => rfl)) (nomark _)) (pss_one (ps_ret pe_bl)) pss_nil)))
    (pss_one (ps_ret pe_bl))), fun g σ Q s fin => ?_⟩
    have hb := below_all low.l high.l hl
    -- for k in range(len(low)):
    refine st_for_range s (ev_lenT (ev_var rfl)) (by omega) (by omega) (fun n e o => ∃ s2 : Slot K, e = [sv low, sv high, s2] ∧ ∀ k, k < n → low.l.getD k 0 ≤ high.l.getD k 0) ⟨_, rfl, fun k hk => absurd hk (Nat.not_lt_zero _)⟩ (fun n hn c hls e o g h σ N hI back s hN => ?_) (fun e o g h σ hI s => ?_)
    · obtain ⟨s2, rfl, hall⟩ := hI
      have e1 : (((n : Nat) : Int)).toNat = n := Int.toNat_natCast n
      -- if low[k] > high[k]:
      refine st_if s (et_test (ev_ib (ev_ixTD 0 (ev_var rfl) (ev_var rfl) (by omega) (by omega)) (ev_ixTD 0 (ev_var rfl) (ev_var rfl) (by omega) (by omega)))) (fun hc g h s => ?_) (fun hc g h s => ?_)
      · have hc' : low.l.getD n 0 > high.l.getD n 0 := by have := of_decide_eq_true hc; rw [e1] at this; exact this
        refine st_ret s ev_bl ?_
        refine fun v g h s r => fin v false g h _ _ _ ?_ (back s) r
        have : belowB low.l high.l = false := by
          cases q : belowB low.l high.l with
          | false => rfl
          | true => have := hb.mp q n (by omega); omega
        rw [this] at hP
        exact hP
      · have hc' : ¬ (low.l.getD n 0 > high.l.getD n 0) := by have := of_decide_eq_false hc; rw [e1] at this; exact this
        refine hN _ _ _ _ _ ⟨_, rfl, fun k hk => ?_⟩ s
        by_cases hkn : k < n
        · exact hall k hkn
        · have : k = n := by omega
          subst this
          omega
    · obtain ⟨s2, rfl, hall⟩ := hI
      dsimp only
      refine st_ret s ev_bl ?_
      refine fun v g h s r => fin v true g h _ _ _ ?_ s r
      have : belowB low.l high.l = true := hb.mpr fun k hk => hall k (by omega)
      rw [this] at hP
      exact hP
def abF (found : List (Tup Int)) (x : List Int) : Bool := found.any fun t => belowB t.l x
def beF (found : List (Tup Int)) (x : List Int) : Bool := found.any fun t => belowB x t.l
def a_one (K : PySem.W.Frag) (F : List (Tup Int) → List Int → Bool) : List (Slot K) → (Bool → Prop) → Prop := fun xs P => ∃ (found : List (Tup Int)) (x : Tup Int), xs = [sv found, sv x] ∧ (x.l.length ≤ 1000 ∧ ∀ t ∈ found, t.l.length = x.l.length) ∧ P (F found x.l)
theorem any_take_succ {α : Type} {p : α → Bool} {xs : List α} {n : Nat} {x : α} (h : xs[n]? = some x) (h0 : (xs.take n).any p = false) (hx : p x = false) : (xs.take (n + 1)).any p = false := by
  rw [List.take_add_one, h, List.any_append, h0]
  simp [hx]
theorem any_of_mem {α : Type} {p : α → Bool} {xs : List α} {n : Nat} {x : α} (h : xs[n]? = some x) (hx : p x = true) : xs.any p = true := List.any_eq_true.mpr ⟨x, List.mem_of_getElem? h, hx⟩
theorem sc_law_above_one : FnScope ["found", "levels", "one"] ["found", "levels"] (defScope (topS 24)) := ⟨rfl, rfl, rfl, by decide +kernel, rfl, by decide +kernel, by decide +kernel⟩
theorem ok_law_above_one (E : FX K mg) : Cal P w K mg base "_law_above_one" 2 ["found", "levels"] (SpR K (a_one K abF)) := by
  refine E.cal 18 20 (st := topS 24) rfl rfl (fun _ _ _ _ _ _ us hl => match us, hl with | [_, _], _ => rfl) fun f fd F => okRD F sc_law_above_one (fun xs P' h => ?_) (fun cdv Ar outer s0 H0 E0 hr xs P' h => ?_)
  · obtain ⟨_, _, rfl, _⟩ := h; rfl
  · obtain ⟨found, x0, rfl, ⟨hz, hl⟩, hP⟩ := h
    refine ⟨_, (pss_cons (ps_for PassesOwn.never rfl (pi_listK K (pv 0)) (pg_name (i := 2) sc_law_above_one.nd rfl (.inl rfl))
      (pss_one (ps_if (pt_val (pe_c (ok_law_low E) (hr.mono (by decide)) rfl (pa_cons (pv 2) (pa_cons (pv 1) pa_nil)))) (pss_one (ps_ret pe_bl)) pss_nil)))
    (pss_one (ps_ret pe_bl))), fun g σ Q s fin => ?_⟩
    unfold abF at hP
    refine st_for_list tgt_name s (ev_var rfl) (fun n e o => ∃ s2 : Slot K, e = [sv found, sv x0, s2] ∧ (found.take n).any (fun t => belowB t.l x0.l) = false) ⟨_, rfl, rfl⟩ (fun n x hx c hls e o g h σ N hI back s hN => ?_) (fun e o g h σ hI s => ?_)
    · obtain ⟨s2, rfl, hno⟩ := hI
      have hxl := hl x (List.mem_of_getElem? hx)
      refine st_if s (et_B (ev_call (ea_cons (ev_var rfl) (ea_cons (ev_var rfl) ea_nil)) ⟨_, _, rfl, ⟨by omega, by omega⟩, rfl⟩)) (fun hc g h s => ?_) (fun hc g h s => ?_)
      · refine st_ret s ev_bl ?_
        refine fun v g h s r => fin v true g h _ _ _ ?_ (back s) r
        rw [any_of_mem (p := fun t : Tup Int => belowB t.l x0.l) hx hc] at hP
        exact hP
      · exact hN _ _ _ _ _ ⟨_, rfl, any_take_succ hx hno hc⟩ s
    · obtain ⟨s2, rfl, hno⟩ := hI
      dsimp only
      rw [List.take_length] at hno
      refine st_ret s ev_bl ?_
      refine fun v g h s r => fin v false g h _ _ _ ?_ s r
      rw [hno] at hP
      exact hP
theorem sc_law_below_one : FnScope ["found", "levels", "one"] ["found", "levels"] (defScope (topS 25)) := ⟨rfl, rfl, rfl, by decide +kernel, rfl, by decide +kernel, by decide +kernel⟩
theorem ok_law_below_one (E : FX K mg) : Cal P w K mg base "_law_below_one" 2 ["found", "levels"] (SpR K (a_one K beF)) := by
  refine E.cal 19 21 (st := topS 25) rfl rfl (fun _ _ _ _ _ _ us hl => match us, hl with | [_, _], _ => rfl) fun f fd F => okRD F sc_law_below_one (fun xs P' h => ?_) (fun cdv Ar outer s0 H0 E0 hr xs P' h => ?_)
  · obtain ⟨_, _, rfl, _⟩ := h; rfl
  · obtain ⟨found, x0, rfl, ⟨hz, hl⟩, hP⟩ := h
    refine ⟨_, (pss_cons (ps_for PassesOwn.never rfl (pi_listK K (pv 0)) (pg_name (i := 2) sc_law_below_one.nd rfl (.inl rfl))
      (pss_one (ps_if (pt_val (pe_c (ok_law_low E) (hr.mono (by decide)) rfl (pa_cons (pv 1) (pa_cons (pv 2) pa_nil)))) (pss_one (ps_ret pe_bl)) pss_nil)))
    (pss_one (ps_ret pe_bl))), fun g σ Q s fin => ?_⟩
    unfold beF at hP
    refine st_for_list tgt_name s (ev_var rfl) (fun n e o => ∃ s2 : Slot K, e = [sv found, sv x0, s2] ∧ (found.take n).any (fun t => belowB x0.l t.l) = false) ⟨_, rfl, rfl⟩ (fun n x hx c hls e o g h σ N hI back s hN => ?_) (fun e o g h σ hI s => ?_)
    · obtain ⟨s2, rfl, hno⟩ := hI
      have hxl := hl x (List.mem_of_getElem? hx)
      refine st_if s (et_B (ev_call (ea_cons (ev_var rfl) (ea_cons (ev_var rfl) ea_nil)) ⟨_, _, rfl, ⟨by omega, by omega⟩, rfl⟩)) (fun hc g h s => ?_) (fun hc g h s => ?_)
      · refine st_ret s ev_bl ?_
        refine fun v g h s r => fin v true g h _ _ _ ?_ (back s) r
        rw [any_of_mem (p := fun t : Tup Int => belowB x0.l t.l) hx hc] at hP
        exact hP
      · exact hN _ _ _ _ _ ⟨_, rfl, any_take_succ hx hno hc⟩ s
    · obtain ⟨s2, rfl, hno⟩ := hI
      dsimp only
      rw [List.take_length] at hno
      refine st_ret s ev_bl ?_
      refine fun v g h s r => fin v false g h _ _ _ ?_ s r
      rw [hno] at hP
      exact hP

def leastF (found : List (Tup Int)) : List (Tup Int) := found.foldl (fun ends x => if abF ends x.l = true then ends else ends ++ [x]) []
def a_least (K : PySem.W.Frag) : List (Slot K) → (List (Tup Int) → Prop) → Prop := fun xs P => ∃ (found : List (Tup Int)) (m : Nat), xs = [sv found] ∧ (m ≤ 1000 ∧ (∀ t ∈ found, t.l.length = m) ∧ found.length ≤ 5000) ∧ P (leastF found)
theorem least_sub (found : List (Tup Int)) : ∀ x ∈ leastF found, x ∈ found := by
  have key : ∀ (L acc : List (Tup Int)), (∀ x ∈ acc, x ∈ found) → (∀ x ∈ L, x ∈ found) → ∀ x ∈ L.foldl (fun ends x => if abF ends x.l = true then ends else ends ++ [x]) acc, x ∈ found := by
    intro L
    induction L with
    | nil => intro acc h1 _; exact h1
    | cons a L ih =>
      intro acc h1 h2
      refine ih _ (fun x hx => ?_) fun x hx => h2 x (List.mem_cons_of_mem _ hx)
      dsimp only at hx
      split at hx
      · exact h1 x hx
      · rcases List.mem_append.mp hx with hx | hx
        · exact h1 x hx
        · rw [List.mem_singleton] at hx
          rw [hx]; exact h2 a List.mem_cons_self
  exact key found [] (fun _ z => nomatch z) fun _ h => h
theorem least_len (found : List (Tup Int)) : (leastF found).length ≤ found.length := by
  have key : ∀ (L acc : List (Tup Int)), (L.foldl (fun ends x => if abF ends x.l = true then ends else ends ++ [x]) acc).length ≤ acc.length + L.length := by
    intro L
    induction L with
    | nil => intro acc; exact Nat.le_refl _
    | cons a L ih =>
      intro acc
      refine Nat.le_trans (ih _) ?_
      rw [List.length_cons]
      dsimp only
      split
      · omega
      · rw [List.length_append]; show acc.length + 1 + L.length ≤ _; omega
  have := key found []
  rw [List.length_nil, Nat.zero_add] at this
  exact this
theorem sc_law_least : FnScope ["found", "ends", "levels"] ["found"] (defScope (topS 26)) := ⟨rfl, rfl, rfl, by decide +kernel, rfl, by decide +kernel, by decide +kernel⟩
theorem ok_law_least (E : FX K mg) : Cal P w K mg base "_law_least" 3 ["found"] (SpR K (a_least K)) := by
  refine E.cal 20 22 (st := topS 26) rfl rfl (fun _ _ _ _ _ _ us hl => match us, hl with | [_], _ => rfl) fun f fd F => okRD F sc_law_least (fun xs P' h => ?_) (fun cdv Ar outer s0 H0 E0 hr xs P' h => ?_)
  · obtain ⟨_, _, rfl, _⟩ := h; rfl
  · obtain ⟨found, m, rfl, ⟨hm, hl, hz⟩, hP⟩ := h
    refine ⟨_, (pss_cons (ps_set (i := 1) sc_law_least.nd rfl (.inl rfl) (pe_lst pa_nil))
    (pss_cons (ps_for PassesOwn.never rfl (pi_listK K (pv 0)) (pg_name (i := 2) sc_law_least.nd rfl (.inl rfl))
      (pss_one (ps_if (pt_not (pt_val (pe_c (ok_law_above_one E) (hr.mono (by decide)) rfl (pa_cons (pv 1) (pa_cons (pv 2) pa_nil))))) (pss_one (ps_expr (pe_bm PySem.F.plainAttrs_list PySem.F.slot_list_append PySem.F.type_list_append mt_append (pv 1) (pa_cons (pv 2) pa_nil)))) pss_nil)))
    (pss_one (ps_ret (pv 1))))), fun g σ Q s fin => ?_⟩
    -- ends = []
    refine st_setN s (en_lst (el_nil (α := Tup Int)) (by decide)) (fun l g h s => ?_)
    -- for levels in found:
    refine st_for_list tgt_name s (ev_var rfl) (fun n e o => ∃ s2 : Slot K, e = [sv found, sv (V.ref l), s2] ∧ o = [(l, Own.lst K (leastF (found.take n)))]) ⟨_, rfl, rfl⟩ (fun n x hx c hls e o g h σ N hI back s hN => ?_) (fun e o g h σ hI s => ?_)
    · obtain ⟨s2, rfl, rfl⟩ := hI
      have hxl := hl x (List.mem_of_getElem? hx)
      have hsub := least_sub (found.take n)
      have hlen := least_len (found.take n)
      rw [List.length_take] at hlen
      have hstep : leastF (found.take (n + 1)) = if abF (leastF (found.take n)) x.l = true then leastF (found.take n) else leastF (found.take n) ++ [x] := by unfold leastF; rw [take_foldl hx]
      -- if not _law_above_one(ends, levels):
      refine st_if s (et_not (et_B (ev_callO (m := 0) rfl rfl (ev_var rfl) ⟨_, _, rfl, ⟨by omega, fun t ht => by rw [hl t (List.mem_of_mem_take (hsub t ht)), hxl]⟩, rfl⟩))) (fun hc g h s => ?_) (fun hc g h s => ?_)
      · have hc' : abF (leastF (found.take n)) x.l = false := by simpa using hc
        -- ends.append(levels)
        refine st_append (m := 0) s rfl rfl (Nat.lt_of_le_of_lt (show _ ≤ 5000 by omega) (by decide)) (ev_var rfl) (fun g h s => ?_)
        exact hN _ _ _ _ _ ⟨_, rfl, by rw [hstep, if_neg (by rw [hc']; exact Bool.false_ne_true)]; rfl⟩ s
      · have hc' : abF (leastF (found.take n)) x.l = true := by simpa using hc
        exact hN _ _ _ _ _ ⟨_, rfl, by rw [hstep, if_pos hc']⟩ s
    · obtain ⟨s2, rfl, rfl⟩ := hI
      dsimp only
      rw [List.take_length] at s
      obtain ⟨g', s⟩ := s.freeze (i := 1) (m := 0) rfl rfl rfl
      refine st_ret s (ev_var rfl) ?_
      exact fun v g h s r => fin v _ g h _ _ _ hP s r
end K14
/-! sorted of a list of tuples of ints. -/
namespace Lw
open PySem PySem.Spec PyProof.Rows L2
section
variable {prog : Program} {w : World} {A : Around} {E : Value → Shared → Prop} {s : Shared}
theorem sort_small {a : Addr} {vs : List Value} {n : Nat} {P : PySem.Fin → Shared → Prop} (ho : s.heap.get? a = some (seqObj "list" vs.toArray n)) (h1 : vs.length ≤ 1)
    (h : ∀ out : Array Value, out.toList.Perm vs → P (.done (.ret .none)) { s with heap := sortedHeap s.heap a vs out }) :
    wpAny (model prog w) A (Builtin.«list.sort» ⟨[.ref a], []⟩) P E s := by
  refine SK.plain_sort (r := fun _ => 0) ho (by omega) (fun h2 Q hQ => ?_) fun ps out h1 h2 h3 => ?_
  · exfalso; omega
  · exact h out (TS.out_rank (r := fun _ => 0) h1 h2 h3).1
theorem sorted_small {l : Addr} {vs : List Value} {Q : Value → Shared → Prop} (hl : s.heap.IsList l vs.toArray) (h1 : vs.length ≤ 1)
    (h : ∀ out : Array Value, out.toList.Perm vs → Q (.ref (s.heap.objs.size + 1)) { s with heap := sortedAll s.heap vs out }) :
    wpAny (model prog w) A (call (.builtin "sorted") [.ref l]) Q E s := by
  refine Calls.call_function_entry kind_sorted plain_sorted entry_sorted (args_sorted1 _) ?_
  unfold Builtin.«sorted»
  refine wpAny_bind (m := checkCount "sorted" 1 1 _) (wpAny_pure ?_)
  refine wpAny_bind (collect_list hl ?_ (by rw [sizeLine_eq]; omega))
  refine wpAny_bind (wpAny_newList ?_ (by rw [sizeLine_eq]; omega))
  have hsz : ((s.heap.push (seqObj "list" #[] 0)).update s.heap.objs.size (Obj.mapSeq (· ++ vs.toArray))).objs.size = s.heap.objs.size + 1 := by
    rw [Heap.size_update, size_push']
  have hoL : (((s.heap.push (seqObj "list" #[] 0)).update s.heap.objs.size (Obj.mapSeq (· ++ vs.toArray))).push (seqObj "list" vs.toArray 0)).get? (s.heap.objs.size + 1) = some (seqObj "list" vs.toArray 0) := by
    rw [← hsz]; exact Heap.get?_push_size _ rfl
  show wpAny _ _ _ _ _ { s with heap := ((s.heap.push (seqObj "list" #[] 0)).update s.heap.objs.size (Obj.mapSeq (· ++ vs.toArray))).push (seqObj "list" vs.toArray 0) }
  rw [hsz]
  refine wpAny_bind (wpAny_holding (wpAny_call_entry slot_list_sort ⟨_, hoL, rfl⟩ entry_list_sort (sort_small hoL h1 fun out a1 => ⟨_, rfl, ?_⟩) (args_list_sort _)))
  exact wpAny_pure ⟨_, rfl, h out a1⟩
end
theorem perm_small {α : Type} {xs ys : List α} (h : ys.length ≤ 1) (p : xs.Perm ys) : xs = ys := by
  cases ys with
  | nil => exact List.perm_nil.mp p
  | cons y ys =>
    cases ys with
    | nil => exact List.perm_singleton.mp p
    | cons z ys => simp at h
def rSort1 (K : PySem.W.Frag) : List V → Hp → VK → Prop := fun vs H Q => ∃ (a : Addr) (xs : List V), vs = [V.ref a] ∧ SqL K H a xs ∧ xs.length ≤ 1 ∧ ∀ p, H p = none → Q (.ref p) (upd H p (.lst xs))
theorem cr_sort1 {X : Cx} : CallR X (.builtin "sorted") (rSort1 X.K) := by
  intro pins s σ H vs us Q I r h
  obtain ⟨a, xs, rfl, hs, h1, q⟩ := h
  obtain ⟨its, rv, hl, hz⟩ := I.list hs
  rw [Vals.ref1 r]
  have hlen : its.length = xs.length := rv.length.symm
  refine sorted_small hl.isList (by omega) fun out hp => ?_
  obtain ⟨ep, he'⟩ := PyProof.Rows.sortedAll_at s.heap its out
  have e : out.toList = its := perm_small (by omega) hp
  refine ⟨.ref _, upd H (s.heap.objs.size + 1) (.lst xs), I.laid (t' := s.toks) (fun _ _ => PyProof.Rows.sortedAll_old) (Nat.le_succ _) ⟨hz, out.toList, ep, by rw [e]; exact rv, he'⟩, rfl, q _ (I.hok.fresh (Nat.le_succ _))⟩
def rSortG (K : PySem.W.Frag) (d : Nat) (B : Int) : List V → Hp → VK → Prop := fun vs H Q => rSort1 K vs H Q ∨ (1 ≤ d ∧ rSortU K d B vs H Q)
theorem cr_sortG {X : Cx} (d : Nat) (B : Int) : CallR X (.builtin "sorted") (rSortG X.K d B) := by
  intro pins s σ H vs us Q I r h
  rcases h with h | ⟨hd, h⟩
  · exact cr_sort1 pins s σ H vs us Q I r h
  · exact cr_sortT hd pins s σ H vs us Q I r h
theorem paired_perm {α β : Type} {F : α → β → Prop} {xs ys : List α} (p : xs.Perm ys) : ∀ {zs : List β}, Paired F ys zs → ∃ ws, Paired F xs ws ∧ ws.Perm zs := by
  induction p with
  | nil => intro zs h; cases h; exact ⟨[], .nil, List.Perm.nil⟩
  | cons x _ ih =>
    intro zs h
    cases h with
    | cons r t =>
      obtain ⟨ws, h1, h2⟩ := ih t
      exact ⟨_ :: ws, .cons r h1, h2.cons _⟩
  | swap x y l =>
    intro zs h
    cases h with
    | cons r t =>
      cases t with
      | cons r2 t => exact ⟨_, .cons r2 (.cons r t), List.Perm.swap ..⟩
  | trans _ _ ih1 ih2 =>
    intro zs h
    obtain ⟨ws, h1, h2⟩ := ih2 h
    obtain ⟨us, h3, h4⟩ := ih1 h1
    exact ⟨us, h3, h4.trans h2⟩
/-- two arrangements, one by <, one by ≤, are one -/
theorem sorted_unique {α : Type} {c : α → Int} : ∀ {xs ys : List α}, xs.Perm ys → xs.Pairwise (fun a b => c a ≤ c b) → ys.Pairwise (fun a b => c a < c b) → xs = ys
  | [], ys, p, _, _ => (List.nil_perm.mp p).symm
  | x :: xs, [], p, _, _ => nomatch List.perm_nil.mp p
  | x :: xs, y :: ys, p, h1, h2 => by
    obtain ⟨a1, a2⟩ := List.pairwise_cons.mp h1
    obtain ⟨b1, b2⟩ := List.pairwise_cons.mp h2
    have e : x = y := by
      rcases List.mem_cons.mp (p.mem_iff.mp List.mem_cons_self) with e | hx
      · exact e
      · rcases List.mem_cons.mp (p.mem_iff.mpr List.mem_cons_self) with e | hy
        · exact e.symm
        · have := a1 y hy
          have := b1 x hx
          omega
    subst e
    rw [sorted_unique (List.Perm.cons_inv p) a2 b2]
section
variable {K : PySem.W.Frag} {env : Env K} {os : Os} {te : TE} {i m : Nat} {l : Addr}
/-- sorted(an owned list of tuples of ints): zs, the same items by their order -/
theorem en_sortO {xs zs : List (Tup Int)} {d : Nat} {B : Int} (hx : env[i]? = some (.val V inferInstance (V.ref l))) (ho : os[m]? = some (l, Own.lst K xs)) (h64 : xs.length < 64) (hd : ∀ x ∈ xs, x.l.length = d ∧ TS.Bd B x.l) (hz : zs.Perm xs) (hp : zs.Pairwise fun a b => TS.code B a.l < TS.code B b.l) (h0 : d = 0 → xs.length ≤ 1) :
    EvN (tCB (rSortG K d B) (tCons (tVar i) tNil)) env os zs := fun {b g h σ Q} s q =>
  ev_var hx s fun v g1 h1 l1 r1 => by
    cases r1
    have s1 := s.le l1
    obtain ⟨vs, e, p⟩ := own_seq s1 ho
    by_cases hs : xs.length ≤ 1
    · refine .inl ⟨l, vs, rfl, SqL.of e, by rw [p.length]; exact hs, fun t ht => q t vs g1 h1 l1 ht ?_⟩
      have : zs = xs := perm_small hs hz
      rw [this]; exact p
    · have hd1 : 1 ≤ d := by
        rcases Nat.eq_zero_or_pos d with z | z
        · exact absurd (h0 z) hs
        · exact z
      have tup : ∀ x y, (instTup (K := K) (α := Int)).R g1 x y → TupI K h1 x y.l := fun x y r => by
        obtain ⟨a, e1, e2⟩ := tup_ints r
        exact ⟨a, e1, .inl (.inl (l1.gh _ _ e2))⟩
      refine .inr ⟨hd1, l, vs, rfl, SqL.of e, by rw [p.length]; exact h64, fun x hx => ?_, fun ys t hperm hpw ht => ?_⟩
      · obtain ⟨y, hy, r⟩ := paired_all p x hx
        exact ⟨y.l, tup x y r, hd y hy⟩
      · obtain ⟨ws, pw, pp⟩ := paired_perm hperm p
        have hws : ws.Pairwise fun a b => TS.code B a.l ≤ TS.code B b.l := by
          clear pp hperm
          have key : ∀ {ys : List V} {ws : List (Tup Int)}, Paired ((instTup (K := K) (α := Int)).R g1) ys ws → ys.Pairwise (fun x y => ∀ n m, TupI K h1 x n → TupI K h1 y m → TS.code B n ≤ TS.code B m) → ws.Pairwise fun a b => TS.code B a.l ≤ TS.code B b.l := by
            intro ys ws pw
            induction pw with
            | nil => intro _; exact List.Pairwise.nil
            | @cons y w ys ws r t ih =>
              intro hq
              obtain ⟨q1, q2⟩ := List.pairwise_cons.mp hq
              refine List.pairwise_cons.mpr ⟨fun w' hw' => ?_, ih q2⟩
              have : ∃ y' ∈ ys, (instTup (K := K) (α := Int)).R g1 y' w' := by
                clear ih hq q1 q2
                induction t with
                | nil => cases hw'
                | cons r' t' ih =>
                  rcases List.mem_cons.mp hw' with rfl | hw'
                  · exact ⟨_, List.mem_cons_self, r'⟩
                  · obtain ⟨y', h1, h2⟩ := ih hw'
                    exact ⟨y', List.mem_cons_of_mem _ h1, h2⟩
              obtain ⟨y', hy', r'⟩ := this
              exact q1 y' hy' _ _ (tup _ _ r) (tup _ _ r')
          exact key pw hpw
        have : ws = zs := sorted_unique (c := fun a : Tup Int => TS.code B a.l) (pp.trans hz.symm) hws hp
        subst this
        exact q t ys g1 h1 l1 ht pw
end
end Lw
namespace K14
open PySem PySem.Spec PyProof.Rows L2 Lw RZ
variable {P : Program} {w : World} {K : PySem.W.Frag} {mg : Str → Option Value} {base : Heap}
def greS (ends : List (Tup Int)) (x : Tup Int) : List (Tup Int) := if beF ends x.l = true then ends else ends ++ [x]
def greE (L : List (Tup Int)) : List (Tup Int) := L.foldl greS []
def greatF (found : List (Tup Int)) : List (Tup Int) := (greE found.reverse).reverse
theorem gre_sub (L : List (Tup Int)) : (greE L).Sublist L := by
  have key : ∀ (L acc pre : List (Tup Int)), acc.Sublist pre → (L.foldl greS acc).Sublist (pre ++ L) := by
    intro L
    induction L with
    | nil => intro acc pre h; rw [List.append_nil]; exact h
    | cons a L ih =>
      intro acc pre h
      have := ih (greS acc a) (pre ++ [a]) (by
        unfold greS
        split
        · exact h.trans (List.sublist_append_left _ _)
        · exact h.append (List.Sublist.refl _))
      rw [List.append_assoc] at this
      exact this
  exact key L [] [] (List.Sublist.refl _)
theorem great_sub (found : List (Tup Int)) : (greatF found).Sublist found := by
  have := (gre_sub found.reverse).reverse
  rw [List.reverse_reverse] at this
  exact this
def a_great (K : PySem.W.Frag) : List (Slot K) → (List (Tup Int) → Prop) → Prop := fun xs P => ∃ (found : List (Tup Int)) (m : Nat) (B : Int), xs = [sv found] ∧
  (m ≤ 1000 ∧ (∀ t ∈ found, t.l.length = m ∧ TS.Bd B t.l) ∧ found.length ≤ 5000 ∧ (found.Pairwise fun a b => TS.code B a.l < TS.code B b.l) ∧ (greatF found).length < 64 ∧ (m = 0 → found.length ≤ 1)) ∧ P (greatF found)
theorem sc_law_greatest : FnScope ["found", "ends", "levels"] ["found"] (defScope (topS 27)) := ⟨rfl, rfl, rfl, by decide +kernel, rfl, by decide +kernel, by decide +kernel⟩
theorem ok_law_greatest (E : FX K mg) : Cal P w K mg base "_law_greatest" 3 ["found"] (SpR K (a_great K)) := by
  refine E.cal 21 23 (st := topS 27) rfl rfl (fun _ _ _ _ _ _ us hl => match us, hl with | [_], _ => rfl) fun f fd F => okRD F sc_law_greatest (fun xs P' h => ?_) (fun cdv Ar outer s0 H0 E0 hr xs P' h => ?_)
  · obtain ⟨_, _, _, rfl, _⟩ := h; rfl
  · obtain ⟨found, m, B, rfl, ⟨hm, hl, hz, hpw, h64, h0⟩, hP⟩ := h
    refine ⟨_, (pss_cons (ps_set (i := 1) sc_law_greatest.nd rfl (.inl rfl) (pe_lst pa_nil))
    (pss_cons (ps_for PassesOwn.never rfl (pi_reversed (by rfl) (E.free 39) (pa_cons (pv 0) pa_nil)) (pg_name (i := 2) sc_law_greatest.nd rfl (.inl rfl))
      (pss_one (ps_if (pt_not (pt_val (pe_c (ok_law_below_one E) (hr.mono (by decide)) rfl (pa_cons (pv 1) (pa_cons (pv 2) pa_nil))))) (pss_one (ps_expr (pe_bm PySem.F.plainAttrs_list PySem.F.slot_list_append PySem.F.type_list_append mt_append (pv 1) (pa_cons (pv 2) pa_nil)))) pss_nil)))
    (pss_one (ps_ret (pe_callB (cr_sortG m B) (by rfl) (E.free 44) (by decide +kernel) (pa_cons (pv 1) pa_nil)))))), fun g σ Q s fin => ?_⟩
    -- ends = []
    refine st_setN s (en_lst (el_nil (α := Tup Int)) (by decide)) (fun l g h s => ?_)
    -- for levels in reversed(found):
    refine st_for_rev tgt_name s (ev_var rfl) (fun n e o => ∃ s2 : Slot K, e = [sv found, sv (V.ref l), s2] ∧ o = [(l, Own.lst K (greE (found.reverse.take n)))]) ⟨_, rfl, rfl⟩ (fun n x hx c hls e o g h σ N hI back s hN => ?_) (fun e o g h σ hI s => ?_)
    · obtain ⟨s2, rfl, rfl⟩ := hI
      have hxl := hl x (List.mem_reverse.mp (List.mem_of_getElem? hx))
      have hsub := gre_sub (found.reverse.take n)
      have hlen := hsub.length_le
      rw [List.length_take, List.length_reverse] at hlen
      have hmem : ∀ t ∈ greE (found.reverse.take n), t ∈ found := fun t ht => List.mem_reverse.mp (List.mem_of_mem_take (hsub.subset ht))
      have hstep : greE (found.reverse.take (n + 1)) = greS (greE (found.reverse.take n)) x := by unfold greE; rw [take_foldl hx]
      -- if not _law_below_one(ends, levels):
      refine st_if s (et_not (et_B (ev_callO (m := 0) rfl rfl (ev_var rfl) ⟨_, _, rfl, ⟨by rw [hxl.1]; exact hm, fun t ht => by rw [(hl t (hmem t ht)).1, hxl.1]⟩, rfl⟩))) (fun hc g h s => ?_) (fun hc g h s => ?_)
      · have hc' : beF (greE (found.reverse.take n)) x.l = false := by simpa using hc
        -- ends.append(levels)
        refine st_append (m := 0) s rfl rfl (Nat.lt_of_le_of_lt (show _ ≤ 5000 by omega) (by decide)) (ev_var rfl) (fun g h s => ?_)
        exact hN _ _ _ _ _ ⟨_, rfl, by rw [hstep]; unfold greS; rw [if_neg (by rw [hc']; exact Bool.false_ne_true)]; rfl⟩ s
      · have hc' : beF (greE (found.reverse.take n)) x.l = true := by simpa using hc
        exact hN _ _ _ _ _ ⟨_, rfl, by rw [hstep]; unfold greS; rw [if_pos hc']⟩ s
    · obtain ⟨s2, rfl, rfl⟩ := hI
      dsimp only
      rw [← List.length_reverse, List.take_length] at s
      have hg : greE found.reverse = (greatF found).reverse := by unfold greatF; rw [List.reverse_reverse]
      have hmem : ∀ t ∈ greE found.reverse, t ∈ found := fun t ht => List.mem_reverse.mp ((gre_sub found.reverse).subset ht)
      have hlen : (greE found.reverse).length = (greatF found).length := by rw [hg, List.length_reverse]
      -- return sorted(ends)
      refine st_ret s (EvN.ev (en_sortO (m := 0) (zs := greatF found) rfl rfl (by rw [hlen]; exact h64) (fun x hx => hl x (hmem x hx)) (by rw [hg]; exact (List.reverse_perm _).symm) (hpw.sublist (great_sub found)) (fun z => by rw [hlen]; exact Nat.le_trans (great_sub found).length_le (h0 z)))) ?_
      exact fun v g h s r => fin v _ g h _ _ _ hP s r
/-! ### all settings, by the law -/
def setF (ts : List Int) : List (List Int) := ts.foldl (fun found t => found.flatMap fun x => (upto (t + 1).toNat).map fun l => x ++ [l]) [[]]
def a_set (K : PySem.W.Frag) : List (Slot K) → (List (Tup Int) → Prop) → Prop := fun xs P => ∃ ts : Tup Int, xs = [sv ts] ∧ okT ts ∧ P ((allS ts.l).map Tup.mk)
theorem set_step (L : List (List Int)) (t : Int) : ∀ ts : List Int, (ts.foldl (fun found t => found.flatMap fun x => (upto (t + 1).toNat).map fun l => x ++ [l]) L) = L.flatMap fun x => (allS ts).map fun y => x ++ y := by
  intro ts
  induction ts generalizing L with
  | nil => show L = L.flatMap fun x => [x ++ []]; simp
  | cons u ts ih =>
    rw [List.foldl_cons, ih, List.flatMap_assoc]
    congr 1
    funext x
    rw [show allS (u :: ts) = (upto (u + 1).toNat).flatMap fun l => (allS ts).map (l :: ·) from rfl, List.map_flatMap, List.flatMap_map]
    congr 1
    funext l
    rw [List.map_map]
    congr 1
    funext y
    simp
theorem set_all (ts : List Int) : setF ts = allS ts := by
  have := set_step [[]] 0 ts
  unfold setF
  rw [this]
  simp
end K14
namespace K14
open PySem PySem.Spec PyProof.Rows L2 Lw RZ
variable {P : Program} {w : World} {K : PySem.W.Frag} {mg : Str → Option Value} {base : Heap}
def setS (found : List (List Int)) (t : Int) : List (List Int) := found.flatMap fun x => (upto (t + 1).toNat).map fun l => x ++ [l]
theorem setF_take {ts : List Int} {n : Nat} {t : Int} (h : ts[n]? = some t) : setF (ts.take (n + 1)) = setS (setF (ts.take n)) t := take_foldl h
theorem prod_pos (ts : List Int) (h : ∀ t ∈ ts, 0 ≤ t) : 1 ≤ prodF ts := by
  have := (prod_take h ts.length).1
  rwa [List.take_length] at this
theorem setF_len {ts : Tup Int} (h : okT ts) (n : Nat) : (setF (ts.l.take n)).length ≤ 4096 := by
  rw [set_all]
  have := allS_len (ts.l.take n) fun t ht => h.1 t (List.mem_of_mem_take ht)
  have := (prod_take h.1 n).2
  have := h.2.1
  omega
theorem okT_top {ts : Tup Int} (h : okT ts) {t : Int} (ht : t ∈ ts.l) : 0 ≤ t ∧ t ≤ 4095 := by
  refine ⟨h.1 t ht, ?_⟩
  obtain ⟨n, hn⟩ := List.mem_iff_getElem?.mp ht
  have h1 := setF_len h (n + 1)
  rw [setF_take hn] at h1
  have h0 := allS_len (ts.l.take n) fun t ht => h.1 t (List.mem_of_mem_take ht)
  have h2 := prod_pos (ts.l.take n) fun t ht => h.1 t (List.mem_of_mem_take ht)
  have h3 : 1 ≤ (setF (ts.l.take n)).length := by rw [set_all]; omega
  have h4 : (setS (setF (ts.l.take n)) t).length = (setF (ts.l.take n)).length * (t + 1).toNat := by
    unfold setS
    rw [List.length_flatMap]
    simp [upto_len, List.map_const']
  have h5 : 1 * (t + 1).toNat ≤ (setF (ts.l.take n)).length * (t + 1).toNat := Nat.mul_le_mul_right _ h3
  omega
theorem setF_in {ts : Tup Int} (h : okT ts) (n : Nat) : ∀ x ∈ setF (ts.l.take n), x.length ≤ 1000 := by
  intro x hx
  rw [set_all] at hx
  have h1 := run_len (run_all (ts.l.take n) fun t ht => h.1 t (List.mem_of_mem_take ht)) x hx
  have h2 := h.2.2
  rw [List.length_replicate, List.length_take] at h1
  omega
theorem flat_take {α β : Type} {f : α → List β} {xs : List α} {n : Nat} {x : α} (h : xs[n]? = some x) : (xs.take (n + 1)).flatMap f = (xs.take n).flatMap f ++ f x := by
  rw [List.take_succ, h, List.flatMap_append]
  simp
theorem pre_len {L : List (List Int)} {t : Int} {n : Nat} {x : List Int} (h : L[n]? = some x) {j : Nat} (hj : j < (t + 1).toNat) : ((setS (L.take n) t) ++ (upto j).map fun l => x ++ [l]).length < (setS L t).length := by
  have e : setS L t = setS (L.take n) t ++ setS (L.drop n) t := by unfold setS; rw [← List.flatMap_append, List.take_append_drop]
  have e2 : L.drop n = x :: L.drop (n + 1) := by
    obtain ⟨hn, rfl⟩ := List.getElem?_eq_some_iff.mp h
    exact (List.drop_eq_getElem_cons hn)
  rw [e, e2]
  unfold setS
  rw [List.flatMap_cons]
  simp only [List.length_append, List.length_map, upto_len]
  omega
theorem sc_law_settings : FnScope ["tops", "found", "top", "wider", "levels", "level"] ["tops"] (defScope (topS 28)) := ⟨rfl, rfl, rfl, by decide +kernel, rfl, by decide +kernel, by decide +kernel⟩
theorem ok_law_settings (E : FX K mg) : Cal P w K mg base "_law_settings" 1 ["tops"] (SpR K (a_set K)) := by
  refine E.cal 22 24 (st := topS 28) rfl rfl (fun _ _ _ _ _ _ us hl => match us, hl with | [_], _ => rfl) fun f fd F => okRD F sc_law_settings (fun xs P' h => ?_) (fun cdv Ar outer s0 H0 E0 hr xs P' h => ?_)
  · obtain ⟨_, rfl, _⟩ := h; rfl
  · obtain ⟨ts, rfl, ok, hP⟩ := h
    refine ⟨_, (pss_cons (ps_set (i := 1) sc_law_settings.nd rfl (.inl rfl) (pe_lst (pa_cons (pe_tup pa_nil) pa_nil)))
    (pss_cons (ps_for PassesOwn.never rfl (pi_tupK K (pv 0)) (pg_name (i := 2) sc_law_settings.nd rfl (.inl rfl))
      (pss_cons (ps_set (i := 3) sc_law_settings.nd rfl (.inl rfl) (pe_lst pa_nil))
    (pss_cons (ps_for PassesOwn.never rfl (pi_listK K (pv 1)) (pg_name (i := 4) sc_law_settings.nd rfl (.inl rfl))
      (pss_one (ps_for PassesOwn.never rfl (pi_range1 rfl (E.free 43) (pa_cons (pe_op op_add (pv 2) pe_int) pa_nil)) (pg_name (i := 5) sc_law_settings.nd rfl (.inl rfl))
      (pss_one (ps_expr (pe_bm PySem.F.plainAttrs_list PySem.F.slot_list_append PySem.F.type_list_append mt_append (pv 3) (pa_cons (pe_op (op_catAK K) (pv 4) (pe_tup (pa_cons (pv 5) pa_nil))) pa_nil)))))))
    (pss_one (ps_set (i := 1) sc_law_settings.nd rfl (.inl rfl) (pv 3))))))
    (pss_one (ps_ret (pv 1))))), fun g σ Q s fin => ?_⟩
    have hset := fun n => setF_len ok n
    -- found = [()]
    refine st_set s (ev_lstL (el_cons (ev_tupL (el_nil (α := Int))) el_nil)) (fun v g h s => ?_)
    -- for top in tops:
    refine st_for_tup tgt_name s (ev_var rfl) (fun n e o => ∃ s2 s3 s4 s5 : Slot K, e = [sv ts, sv ((setF (ts.l.take n)).map (Tup.mk (α := Int))), s2, s3, s4, s5] ∧ o = []) ⟨_, _, _, _, rfl, rfl⟩ (fun n t ht c hls e o g h σ N hI back s hN => ?_) (fun e o g h σ hI s => ?_)
    · obtain ⟨s2, s3, s4, s5, rfl, rfl⟩ := hI
      have htb := okT_top ok (List.mem_of_getElem? ht)
      have hnext := setF_take ht
      have hlen := hset (n + 1)
      rw [hnext] at hlen
      have hin := setF_in ok n
      generalize hL : setF (ts.l.take n) = L at s hlen hnext hin
      -- wider = []
      refine st_setN s (en_lst (el_nil (α := Tup Int)) (by decide)) (fun l g h s => ?_)
      -- for levels in found:
      refine st_for_list tgt_name s (ev_var rfl) (fun m e o => ∃ s4 s5 : Slot K, e = [sv ts, sv (L.map (Tup.mk (α := Int))), sv t, sv (V.ref l), s4, s5] ∧ o = [(l, Own.lst K ((setS (L.take m) t).map (Tup.mk (α := Int))))]) ⟨_, _, rfl, rfl⟩ (fun m x hx c hls e o g h σ N hI back s hN => ?_) (fun e o g h σ hI s => ?_)
      · obtain ⟨s4, s5, rfl, rfl⟩ := hI
        rw [List.getElem?_map] at hx
        obtain ⟨y, hy, rfl⟩ := Option.map_eq_some_iff.mp hx
        have hyl := hin y (List.mem_of_getElem? hy)
        -- for level in range(top + 1):
        refine st_for_range s (ev_i2 (ev_var rfl) ev_int) (show t + 1 < _ by omega) (show _ ≤ t + 1 by omega) (fun j e o => ∃ s5 : Slot K, e = [sv ts, sv (L.map (Tup.mk (α := Int))), sv t, sv (V.ref l), sv (Tup.mk y), s5] ∧ o = [(l, Own.lst K ((setS (L.take m) t ++ (upto j).map fun l => y ++ [l]).map (Tup.mk (α := Int))))]) ⟨_, rfl, by rw [show upto 0 = [] from rfl, List.map_nil, List.append_nil]⟩ (fun j hj c hls e o g h σ N hI back s hN => ?_) (fun e o g h σ hI s => ?_)
        · obtain ⟨s5, rfl, rfl⟩ := hI
          have hpl := pre_len hy hj
          -- wider.append(levels + (level,))
          refine st_append (m := 0) s rfl rfl (by rw [List.length_map]; exact Nat.lt_trans (Nat.lt_of_lt_of_le hpl hlen) (by decide)) (ev_catT (ev_var rfl) (ev_tupL (el_cons (ev_var rfl) el_nil)) (Nat.le_trans (m := 1001) (by show y.length + 1 ≤ 1001; omega) (by decide))) (fun g h s => ?_)
          refine hN _ _ _ _ _ ⟨_, rfl, ?_⟩ s
          have e1 : (setS (L.take m) t ++ (upto (j + 1)).map fun l => y ++ [l]).map (Tup.mk (α := Int)) = (setS (L.take m) t ++ (upto j).map fun l => y ++ [l]).map (Tup.mk (α := Int)) ++ [Tup.mk (y ++ [(j : Int)])] := by
            first | (simp only [upto_succ, List.map_append, List.append_assoc]; done) | (simp only [upto_succ, List.map_append, List.append_assoc]; rfl)
          rw [e1]
          rfl
        · obtain ⟨s5, rfl, rfl⟩ := hI
          dsimp only
          refine hN _ _ _ _ _ ⟨_, _, rfl, ?_⟩ s
          have : setS (L.take (m + 1)) t = setS (L.take m) t ++ (upto (t + 1).toNat).map fun l => y ++ [l] := flat_take hy
          rw [this]
      · obtain ⟨s4, s5, rfl, rfl⟩ := hI
        dsimp only
        rw [List.length_map, List.take_length] at s
        obtain ⟨g', s⟩ := s.freeze (i := 3) (m := 0) rfl rfl (by first | rfl | rw [hls] | assumption)
        -- found = wider
        refine st_set s (ev_var rfl) (fun v g h s => ?_)
        exact hN _ _ _ _ _ ⟨_, _, _, _, by rw [hnext]; rfl, rfl⟩ s
    · obtain ⟨s2, s3, s4, s5, rfl, rfl⟩ := hI
      dsimp only
      rw [List.take_length, set_all] at s
      -- return found
      refine st_ret s (ev_var rfl) ?_
      exact fun v g h s r => fin v _ g h _ _ _ hP s r
/-! ### one level another -/
def a_step (K : PySem.W.Frag) : List (Slot K) → (Tup Int → Prop) → Prop := fun xs P => ∃ (start : Tup Int) (k step : Int), xs = [sv start, sv k, sv step] ∧ (0 ≤ k ∧ k < start.l.length ∧ start.l.length ≤ 1000) ∧ P (Tup.mk (start.l.set k.toNat (start.l.getD k.toNat 0 + step)))
theorem sc_law_step : FnScope ["start", "k", "step"] ["start", "k", "step"] (defScope (topS 36)) := ⟨rfl, rfl, rfl, by decide +kernel, rfl, by decide +kernel, by decide +kernel⟩
theorem ok_law_step (E : FX K mg) : Cal P w K mg base "_law_step" 1 ["start", "k", "step"] (SpR K (a_step K)) := by
  refine E.cal 30 32 (st := topS 36) rfl rfl (fun _ _ _ _ _ _ us hl => match us, hl with | [_, _, _], _ => rfl) fun f fd F => okRD F sc_law_step (fun xs P' h => ?_) (fun cdv Ar outer s0 H0 E0 hr xs P' h => ?_)
  · obtain ⟨_, _, _, rfl, _⟩ := h; rfl
  · obtain ⟨start, k, step, rfl, ⟨h0, h1, hz⟩, hP⟩ := h
    refine ⟨_, (pss_one (ps_ret (pe_op (op_catAK K) (pe_op (op_catAK K) (pe_slice (sl_tupAK K) (pv 0) po_none (po_some (pv 1))) (pe_tup (pa_cons (pe_op op_add (pe_ix (ix_tupK K) (pv 0) (pv 1) (fun _ _ => rfl)) (pv 2)) pa_nil))) (pe_slice (sl_tupAK K) (pv 0) (po_some (pe_op op_add (pv 1) pe_int)) po_none)))), fun g σ Q s fin => ?_⟩
    have hs : (cut start.l none (some k) ++ [start.l.getD k.toNat 0 + step] ++ cut start.l (some (k + 1)) none).length = start.l.length := by rw [cut_set h0 h1, List.length_set]
    have hs' := hs
    rw [List.length_append] at hs'
    -- return start[:k] + (start[k] + step,) + start[k + 1:]
    refine st_ret s (ev_catT (ev_catT (ev_slT (ev_var rfl) eo_none (eo_some (ev_var rfl))) (ev_tupL (el_cons (ev_i2 (ev_ixTD 0 (ev_var rfl) (ev_var rfl) h0 h1) (ev_var rfl)) el_nil)) ?_) (ev_slT (ev_var rfl) (eo_some (ev_i2 (ev_var rfl) ev_int)) eo_none) ?_) ?_
    · exact Nat.le_trans (m := 1000) (by show (cut start.l none (some k)).length + [start.l.getD k.toNat 0 + step].length ≤ 1000; rw [← List.length_append]; omega) (by decide)
    · exact Nat.le_trans (m := 1000) (by show (cut start.l none (some k) ++ [start.l.getD k.toNat 0 + step]).length + (cut start.l (some (k + 1)) none).length ≤ 1000; omega) (by decide)
    · refine fun v g h s r => fin v _ g h _ _ _ hP s ?_
      have e : Tup.mk (start.l.set k.toNat (start.l.getD k.toNat 0 + step)) = Tup.mk (cut start.l none (some k) ++ [start.l.getD k.toNat 0 + step] ++ cut start.l (some (k + 1)) none) := congrArg Tup.mk (cut_set h0 h1).symm
      rw [e]
      exact r
end K14
/-! More rules with effects: indices drawn, comprehensions over tuples, guarded tests, pop. -/
namespace Lw
open PySem PySem.Spec PyProof.Rows L2 RZ
section
variable {K : PySem.W.Frag} {α β γ : Type} [iα : Py K α] [iβ : Py K β] [iγ : Py K γ] {env : Env K} {os : Os} {ta tb te tl : TE} {t u tt : TT} {i m : Nat} {l : Addr}
theorem ew_ixO {xs : List α} {PI : Int → Prop} (d : α) (hx : env[i]? = some (.val V inferInstance (V.ref l))) (ho : os[m]? = some (l, Own.lst K xs)) (hb : EvW tb env os PI) (hi : ∀ n, PI n → 0 ≤ n ∧ n < xs.length) :
    EvW (tOp (rIxL K) (tVar i) tb) env os (fun z => ∃ n, PI n ∧ z = xs.getD n.toNat d) := .mk fun {b g h σ os2 Q} s q => by
  refine ev_var hx s fun v g1 h1 l1 r1 => hb.run (s.le l1) fun w n g2 h2 p s2 e2 r2 => ?_
  cases r1
  have ho2 : (os ++ os2)[m]? = some (l, Own.lst K xs) := by
    rw [List.getElem?_append_left (List.getElem?_eq_some_iff.mp ho).1]; exact ho
  obtain ⟨vs, e, pp⟩ := own_seq s2 ho2
  obtain ⟨v, e', r⟩ := atI_map pp (atI_getD (d := d) (hi n p).1 (hi n p).2)
  exact ⟨l, vs, n, v, rfl, r2, SqL.of e, e', q _ _ _ _ ⟨n, p, rfl⟩ s2 (l1.gg.trans e2) r⟩
theorem ewt_andG {c : Bool} (h1 : EvT t env os c) (h2 : c = true → EvTW u env os fun _ => True) : EvTW (tAnd t u) env os (fun z => z = true → c = true) := .mk fun {b g h σ os2 Q} s q => (EvT.w h1).run s fun d g1 h' pd s1 e1 => by
  cases d with
  | true => exact (h2 pd.symm).run s1 fun d g2 h2 _ s2 e2 => q d _ _ (fun _ => pd.symm) s2 (e1.trans e2)
  | false => exact q _ _ _ (fun z => nomatch z) s1 e1
theorem ew_lcT {xs : Tup α} {vs : List Nat} {gt : TG} {f : Env K → α → Env K} {p : α → Bool} {P : α → β → Prop} (d : β) (hg : TgtF (K := K) gt vs f) (hx : Ev tl env os xs) (ht : ∀ x ∈ xs.l, EvT tt (f (wiped env vs) x) os (p x))
    (he : ∀ x ∈ xs.l, p x = true → EvW te (f (wiped env vs) x) os (P x)) (hl : xs.l.length ≤ 1000000) : EvNW (tLc (iTup K tl) gt tt te vs) env os (fun ys => Paired (fun y x => P x y) ys (xs.l.filter p)) := .mk fun {b g h σ os2 Q} s q => by
  refine hx s.drop fun v g1 h1 l1 r1 => ?_
  obtain ⟨a, us, rfl, hq, hp⟩ := r1
  have s1 := s.le l1
  refine ⟨a, rfl, ⟨us, same_tup l1.gh hq⟩, fun Dd hD => lc_tup (K := K) (a := a) (xs := us) (fun n H => ∃ acc : List β, Paired (fun y x => P x y) acc ((xs.l.take n).filter p) ∧ LwI K env (os ++ os2) b g1 h1 σ vs Dd acc H) ⟨[], .nil, LwI.start s1 hD vs⟩ (fun n H _ ⟨acc, _, I⟩ => ?_) (fun n x H hn ⟨acc, pr, I⟩ => ?_) (fun H ⟨acc, pr, I⟩ => ?_)⟩
  · obtain ⟨g', s', e1⟩ := I.ex
    exact same_tup (e1.trans s'.gh) hq
  · obtain ⟨y, hy, ry⟩ := paired_getL hp hn
    have hm := List.mem_of_getElem? hy
    refine I.turn (P := P y) hg (fun g' e => iα.mono e ry) ?_ ?_ (small_filter hy pr hl) wipe_wipe (fun z H' pz I' => ⟨_, paired_snoc hy pr pz, I'⟩) d
    · exact fun {b g h σ Q} s q => ht y hm s.drop fun g' h' l => q g' h' l
    · exact fun hc => .mk fun {b g h σ os3 Q} s q => (he y hm hc).run (os2 := os2 ++ os3) (by rw [← List.append_assoc]; exact s) fun v x g' h' px s' e r => q v x g' h' px (by rw [List.append_assoc]; exact s') e r
  · rw [hp.length, List.take_length] at pr
    exact I.done s1 fun l ws g' h' s' e hn' r => q l ws acc g' h' pr s' (l1.gg.trans e) hn' r
variable {b : Bs} {g h : Hp} {σ : L2.St}
/-- an owned list kept from here on, as one made here -/
theorem S0.freezeS {m : Nat} {l : Addr} {xs : List α} (s : S0 b g h σ env os) (hx : env[i]? = some (.val V inferInstance (V.ref l))) (ho : os[m]? = some (l, Own.lst K xs)) (hb : b.ls = []) : ∃ g', S0 b g' h σ (env.set i (sv (SL.mk xs))) (os.eraseIdx m) := by
  obtain ⟨n1, o, e1, vs, rfl, p1⟩ := s.own _ (List.mem_of_getElem? ho)
  have hm := List.mem_of_getElem? ho
  have nb : b.h l = none := by
    rcases s.ol _ hm with z | z
    · exact z
    · rw [hb] at z; cases z
  have lg : Same g (upd g l (.lst vs)) := fun c u q => by rw [upd_ne (ne_of_none q n1)]; exact q
  have nin : ∀ p ∈ os.eraseIdx m, p ∈ os ∧ p.1 ≠ l := fun p hp => by
    obtain ⟨j, hj, hjm⟩ := List.mem_eraseIdx_iff_getElem?.mp hp
    refine ⟨List.mem_of_getElem? hjm, fun z => ?_⟩
    have a1 : (os.map (·.1))[j]? = some l := by rw [List.getElem?_map, hjm]; exact congrArg some z
    have a2 : (os.map (·.1))[m]? = some l := by rw [List.getElem?_map, ho]; rfl
    exact hj ((List.getElem?_inj (by rw [List.length_map]; exact (List.getElem?_eq_some_iff.mp hjm).1) s.nd).mp (a1.trans a2.symm))
  refine ⟨upd g l (.lst vs), fun c u q => ?_, by rw [List.length_set]; exact s.len, fun n t e => ?_, fun p hp => ?_, ?_, s.gg.trans lg, s.fr, s.th, fun a n m => ?_, fun p hp => s.ol p (nin p hp).1⟩
  · by_cases hc : c = l
    · subst hc; rw [upd_same] at q; cases q; exact e1
    · rw [upd_ne hc] at q; exact s.gh _ _ q
  · by_cases hn : i = n
    · subst hn
      have hl : i < env.length := (List.getElem?_eq_some_iff.mp hx).1
      rw [List.getElem?_set_self hl] at e
      cases e
      obtain ⟨v, q1, q2⟩ := s.sl i _ hx
      cases q2
      exact ⟨_, q1, l, vs, rfl, upd_same, pr_mono lg p1⟩
    · rw [List.getElem?_set_ne hn] at e
      exact Slot.ok_mono lg (s.sl n t e)
  · obtain ⟨hp1, hp2⟩ := nin p hp
    obtain ⟨n2, o2, e2, q2⟩ := s.own p hp1
    exact ⟨by rw [upd_ne hp2]; exact n2, o2, e2, p.2.mono lg q2⟩
  · have : ((os.eraseIdx m).map (·.1)).Sublist (os.map (·.1)) := (List.eraseIdx_sublist os m).map _
    exact this.nodup s.nd
  · rw [upd_ne (fun z => by rw [z, nb] at m; exact m rfl)]
    exact s.new a n m
theorem inDK {X : Cx} (hu : X.A.units + 65 < cLine) (h : X.K = K := by rfl) : OpR X (compareOp .In) (rInD K) := h ▸ op_inD hu
/-- x in a list of data of any depth -/
theorem ev_inD {n : Nat} [d : PyD K α n] {x : α} {ys : List α} {c : Bool} (ha : Ev ta env os x) (hb : Ev tb env os ys) (hc : c = true ↔ x ∈ ys) (ox : d.ok x) (oy : ∀ y ∈ ys, d.ok y) (hd : n + 1 ≤ 64 := by decide) : Ev (tOp (rInD K) ta tb) env os c := fun {b g h σ Q} s q =>
  ha s fun v g1 h1 l1 r1 => hb (s.le l1) fun w g2 h2 l2 r2 => by
    have e : ((ys.map d.d).any fun z => PyData.eqv z (d.d x)) = c := by
      rw [Bool.eq_iff_iff, hc, List.any_map, List.any_eq_true]
      constructor
      · rintro ⟨y, hy, q⟩
        rw [← d.eq.mp q]
        exact hy
      · exact fun h => ⟨x, h, d.eq.mpr rfl⟩
    refine ⟨d.d x, ys.map d.d, d.dp (l2.gg.trans l2.gh) r1, ?_, shaped_of ox (by omega), ?_, ?_⟩
    · obtain ⟨a, vs, rfl, q2, p⟩ := r2
      exact .lst (l2.gh.seq q2) (dp_all l2.gh p)
    · exact shaped_of (K := K) (x := ys) oy hd
    · rw [e]; exact q _ _ _ (l1.trans l2) rfl
theorem paired_erase {α β : Type} {F : α → β → Prop} {xs : List α} {ys : List β} (h : Paired F xs ys) (n : Nat) : Paired F (xs.eraseIdx n) (ys.eraseIdx n) := by
  induction h generalizing n with
  | nil => exact .nil
  | cons r h ih =>
    cases n with
    | zero => exact h
    | succ n => exact .cons r (ih n)
variable {D : Ends}
/-- x.pop(e), the value dropped -/
theorem st_popW {xs : List α} {PI : Int → Prop} (s : S0 b g h σ env os) (hx : env[i]? = some (.val V inferInstance (V.ref l))) (ho : os[m]? = some (l, Own.lst K xs)) (e : EvW te env os PI) (hi : ∀ n, PI n → 0 ≤ n ∧ n < xs.length ∧ n < 2 ^ 63)
    (k : ∀ n, PI n → ∀ g' h', S0 b g' h' σ env (os.set m (l, Own.lst K (xs.eraseIdx n.toNat))) → D.nx σ h') : tDrop (tBM K "list" rPopAt (tVar i) (tCons te tNil)) D σ h := by
  unfold tDrop tBM
  refine ev_var hx s fun v g1 h1 l1 r1 => ?_
  cases r1
  have s1 := s.le l1
  obtain ⟨n1, o, e1, vs, rfl, p1⟩ := s1.own _ (List.mem_of_getElem? ho)
  refine ⟨.inl ⟨rfl, vs, SqL.of e1⟩, e.go s1 fun v n g2 h2 px s2 l2 r2 => ?_⟩
  obtain ⟨n2, o, e2, ws, rfl, p2⟩ := s2.own _ (List.mem_of_getElem? ho)
  cases r2
  have hn := hi n px
  have hl := p2.length
  exact ⟨l, ws, n, n.toNat, ws[n.toNat]'(by omega), rfl, rfl, e2, by omega, hn.2.2, (by unfold seqIndex?; simp only [if_neg (show ¬ n < 0 by omega)]; split <;> first | rfl | (exfalso; simp at *; omega)), List.getElem?_eq_getElem _, k n px g2 _ (s2.put (w' := Own.lst K (xs.eraseIdx n.toNat)) ho ⟨_, rfl, paired_erase p2 _⟩)⟩
end
end Lw
namespace K14
open PySem PySem.Spec PyProof.Rows L2 Lw RZ
variable {P : Program} {w : World} {K : PySem.W.Frag} {mg : Str → Option Value} {base : Heap}
theorem paired_imp {α β : Type} {F G : α → β → Prop} {xs : List α} {ys : List β} (h : Paired F xs ys) (q : ∀ a b, F a b → G a b) : Paired G xs ys := by
  induction h with
  | nil => exact .nil
  | cons r _ ih => exact .cons (q _ _ r) ih
def InS (ts x : List Int) : Prop := Paired (fun a t => 0 ≤ a ∧ a ≤ t) x ts
theorem mem_allS : ∀ {ts x : List Int}, x ∈ allS ts ↔ InS ts x
  | [], x => by
    constructor
    · intro h
      rw [show allS [] = [[]] from rfl, List.mem_singleton] at h
      rw [h]; exact .nil
    · intro h
      cases h
      exact List.mem_cons_self
  | t :: ts, x => by
    rw [show allS (t :: ts) = (upto (t + 1).toNat).flatMap fun l => (allS ts).map (l :: ·) from rfl, List.mem_flatMap]
    constructor
    · rintro ⟨a, ha, hx⟩
      obtain ⟨y, hy, rfl⟩ := List.mem_map.mp hx
      have := mem_upto.mp ha
      exact .cons ⟨this.1, by omega⟩ (mem_allS.mp hy)
    · intro h
      cases h with
      | cons r h => exact ⟨_, mem_upto.mpr ⟨r.1, by omega⟩, List.mem_map.mpr ⟨_, mem_allS.mpr h, rfl⟩⟩
def ToldOk (ts : List Int) (told : List (Tup Int)) : Prop := told.length ≤ 6 ∧ ∀ t ∈ told, InS ts t.l
def a_told (K : PySem.W.Frag) : List (Slot K) → Os → (V → Os → Prop) → Prop := fun xs os P => ∃ (l : Addr) (ts : Tup Int), xs = [sv (V.ref l), sv ts] ∧ os = [(l, Bag K)] ∧ okT ts ∧ ∀ l2 told, ToldOk ts.l told → P (V.ref l2) [(l, Bag K), (l2, Own.lst K told)]
theorem sc_law_told : FnScope ["bag", "tops", "found", "k", "top"] ["bag", "tops"] (defScope (topS 30)) := ⟨rfl, rfl, rfl, by decide +kernel, rfl, by decide +kernel, by decide +kernel⟩
theorem ok_law_told (E : FX K mg) : Cal P w K mg base "_law_told" 3 ["bag", "tops"] (SpW K (a_told K)) := by
  refine E.cal 24 26 (st := topS 30) rfl rfl (fun _ _ _ _ _ _ us hl => match us, hl with | [_, _], _ => rfl) fun f fd F => okWD F sc_law_told (fun xs os P' h => ?_) (fun cdv Ar outer s0 H0 E0 hr xs os P' h => ?_)
  · obtain ⟨_, _, rfl, _⟩ := h; rfl
  · obtain ⟨l, ts, rfl, rfl, ok, hP⟩ := h
    refine ⟨_, (pss_cons (ps_set (i := 2) sc_law_told.nd rfl (.inl rfl) (pe_lst pa_nil))
    (pss_cons (ps_for PassesOwn.never rfl (pi_range1 rfl (E.free 43) (pa_cons (pe_c (ok_law_take E) (hr.mono (by decide)) rfl (pa_cons (pv 0) (pa_cons pe_int pa_nil))) pa_nil)) (pg_name (i := 3) sc_law_told.nd rfl (.inl rfl))
      (pss_one (ps_if (PW.pt (pw_and (pt_cmpR op_gt (pe_callB (len_seqK K) (by rfl) (E.free 46) (by decide +kernel) (pa_cons (pv 2) pa_nil)) pe_int (nomark _)) (pw_and1 (pt_cmpR op_eq (pe_c (ok_law_take E) (hr.mono (by decide)) rfl (pa_cons (pv 0) (pa_cons pe_int pa_nil))) pe_int (nomark _))))) (pss_one (ps_expr (pe_bm PySem.F.plainAttrs_list PySem.F.slot_list_append PySem.F.type_list_append mt_append (pv 2) (pa_cons (pe_ix (ix_listK K) (pv 2) (pe_c (ok_law_take E) (hr.mono (by decide)) rfl (pa_cons (pv 0) (pa_cons (pe_callB (len_seqK K) (by rfl) (E.free 46) (by decide +kernel) (pa_cons (pv 2) pa_nil)) pa_nil))) (fun _ _ => rfl)) pa_nil)))) (pss_one (ps_expr (pe_bm PySem.F.plainAttrs_list PySem.F.slot_list_append PySem.F.type_list_append mt_append (pv 2) (pa_cons (pe_callTy (tuple_ofK K) (by rfl) (E.free 40) (by decide +kernel) (pa_cons (pe_lc (own := [("top", 4)]) (g := gName 4) (tt := tYes) rfl sc_law_told.nd (pi_tupK K (pv 1)) (blkOk_by (N := ["bag", "tops", "found", "k", "top"]) (sc := defScope (topS 30)) (own := [("top", 4)]) (by decide +kernel)) (fun _ _ _ _ _ => (pg_name (i := 4) sc_law_told.nd rfl (Or.inl rfl))) (fun _ _ _ _ _ => pts_nil) (fun _ _ _ _ _ => (pe_c (ok_law_take E) (hr.mono (by decide)) rfl (pa_cons (pv 0) (pa_cons (pe_op op_add (pv 4) pe_int) pa_nil))))) pa_nil)) pa_nil)))))))
    (pss_one (ps_ret (pv 2))))), fun g σ Q s fin => ?_⟩
    -- found = []
    refine st_setN s (en_lst (el_nil (α := Tup Int)) (by decide)) (fun lt g h s => ?_)
    -- for k in range(_law_take(bag, 7)):
    try dsimp only
    refine st_rangeW s (ew_takeC (m := 0) rfl rfl ev_int ⟨by decide, by decide⟩) (fun many hm g h s => ?_)
    refine st_for_range s ev_int (by omega) (by omega) (fun n e o => ∃ (tl : List (Tup Int)) (s3 s4 : Slot K), e = [sv (V.ref l), sv ts, sv (V.ref lt), s3, s4] ∧ o = [(l, Bag K), (lt, Own.lst K tl)] ∧ tl.length = n ∧ ∀ t ∈ tl, InS ts.l t.l) ⟨[], _, _, rfl, rfl, rfl, fun _ z => nomatch z⟩ (fun n hn c hls e o g h σ N hI back s hN => ?_) (fun e o g h σ hI s => ?_)
    · obtain ⟨tl, s3, s4, rfl, rfl, htl, hall⟩ := hI
      have hsz : tl.length < sizeLine := Nat.lt_of_le_of_lt (show tl.length ≤ 1000 by omega) (by decide)
      -- if len(found) > 0 and _law_take(bag, 5) == 4:
      try dsimp only
      refine st_ifW s (ewt_andG (et_test (ev_ib (ev_lenO (m := 1) rfl rfl) ev_int)) fun hc => ewt_any (ewt_test (ew_op (ew_takeC (m := 0) rfl rfl ev_int ⟨by decide, by decide⟩) (Ev.w ev_int) fun x y _ _ => ev_eqI (ev_var rfl) (ev_var rfl)))) (fun hc g h s => ?_) (fun hc g h s => ?_)
      · have hc' : (0 : Int) < tl.length := of_decide_eq_true (hc rfl)
        -- found.append(found[_law_take(bag, len(found))])
        refine st_appendW (m := 1) s rfl rfl hsz (ew_ixO (m := 1) (⟨[]⟩ : Tup Int) rfl rfl (ew_takeC (m := 0) rfl rfl (ev_lenO (m := 1) rfl rfl) ⟨hc', by omega⟩) (fun n hn => hn)) (fun x px g h s => ?_)
        refine hN _ _ _ _ _ ⟨tl ++ [x], _, _, rfl, rfl, by rw [List.length_append, htl]; rfl, fun t ht => ?_⟩ s
        obtain ⟨j, hj, rfl⟩ := px
        rcases List.mem_append.mp ht with z | z
        · exact hall t z
        · rw [List.mem_singleton] at z
          rw [z]
          refine hall _ ?_
          rw [List.getD_eq_getElem?_getD, List.getElem?_eq_getElem (show j.toNat < tl.length by omega)]
          exact List.getElem_mem _
      · -- found.append(tuple([_law_take(bag, top + 1) for top in tops]))
        refine st_appendW (m := 1) s rfl rfl hsz (ew_cb1 (EvNW.w (ew_lcT (0 : Int) tgt_name (ev_var rfl) (fun _ _ => et_yes) (fun x hx _ => ew_takeC (m := 0) rfl rfl (ev_i2 (ev_var rfl) ev_int) (by have := okT_top ok hx; exact ⟨by omega, by omega⟩)) (Nat.le_trans ok.2.2 (by decide)))) fun x _ => ev_tupleL (ev_var rfl)) (fun x px g h s => ?_)
        refine hN _ _ _ _ _ ⟨tl ++ [x], _, _, rfl, rfl, by rw [List.length_append, htl]; rfl, fun t ht => ?_⟩ s
        obtain ⟨ys, hy, rfl⟩ := px
        rcases List.mem_append.mp ht with z | z
        · exact hall t z
        · rw [List.mem_singleton] at z
          rw [z]
          rw [List.filter_eq_self.mpr (fun _ _ => rfl)] at hy
          exact paired_imp hy fun a t q => ⟨q.1, by have := q.2; omega⟩
    · obtain ⟨tl, s3, s4, rfl, rfl, htl, hall⟩ := hI
      dsimp only
      -- return found
      refine st_ret s (ev_var rfl) ?_
      exact fun v g h s r => fin v _ g h _ _ _ _ (hP lt tl ⟨by omega, hall⟩) (fun p hp => hp) s s.nd r
/-! ### the drawn tops -/
def TopsOk (ts : Tup Int) : Prop := (∀ t ∈ ts.l, 0 ≤ t) ∧ ts.l.length ≤ 4 ∧ prodF ts.l ≤ 150
def a_tops (K : PySem.W.Frag) : List (Slot K) → Os → (Tup Int → Os → Prop) → Prop := fun xs os P => ∃ (l : Addr) (cap : Int), xs = [sv (V.ref l), sv cap] ∧ os = [(l, Bag K)] ∧ (1 ≤ cap ∧ cap ≤ 150) ∧ ∀ ts, TopsOk ts → P ts os
theorem sc_law_tops : FnScope ["bag", "cap", "found", "size", "many", "high", "k", "top"] ["bag", "cap"] (defScope (topS 29)) := ⟨rfl, rfl, rfl, by decide +kernel, rfl, by decide +kernel, by decide +kernel⟩
theorem ok_law_tops (E : FX K mg) : Cal P w K mg base "_law_tops" 3 ["bag", "cap"] (SpW K (a_tops K)) := by
  refine E.cal 23 25 (st := topS 29) rfl rfl (fun _ _ _ _ _ _ us hl => match us, hl with | [_, _], _ => rfl) fun f fd F => okWD F sc_law_tops (fun xs os P' h => ?_) (fun cdv Ar outer s0 H0 E0 hr xs os P' h => ?_)
  · obtain ⟨_, _, rfl, _⟩ := h; rfl
  · obtain ⟨l, cap, rfl, rfl, hcap, hP⟩ := h
    refine ⟨_, (pss_cons (ps_set (i := 2) sc_law_tops.nd rfl (.inl rfl) (pe_lst pa_nil))
    (pss_cons (ps_set (i := 3) sc_law_tops.nd rfl (.inl rfl) pe_int)
    (pss_cons (ps_set (i := 4) sc_law_tops.nd rfl (.inl rfl) (pe_c (ok_law_take E) (hr.mono (by decide)) rfl (pa_cons (pv 0) (pa_cons pe_int pa_nil))))
    (pss_cons (ps_set (i := 5) sc_law_tops.nd rfl (.inl rfl) (pe_ix (ix_listK K) (pe_lst (pa_cons pe_int (pa_cons pe_int (pa_cons pe_int pa_nil)))) (pe_c (ok_law_take E) (hr.mono (by decide)) rfl (pa_cons (pv 0) (pa_cons pe_int pa_nil))) (fun _ _ => rfl)))
    (pss_cons (ps_if (PW.pt (pw_and (pt_cmpR op_eq (pv 4) pe_int (nomark _)) (pw_and1 (pt_cmpR op_eq (pe_c (ok_law_take E) (hr.mono (by decide)) rfl (pa_cons (pv 0) (pa_cons pe_int pa_nil))) pe_int (nomark _))))) (pss_cons (ps_set (i := 5) sc_law_tops.nd rfl (.inl rfl) pe_int)
    (pss_one (ps_set (i := 1) sc_law_tops.nd rfl (.inl rfl) pe_int))) pss_nil)
    (pss_cons (ps_for PassesOwn.never rfl (pi_range1 rfl (E.free 43) (pa_cons (pv 4) pa_nil)) (pg_name (i := 6) sc_law_tops.nd rfl (.inl rfl))
      (pss_cons (ps_set (i := 7) sc_law_tops.nd rfl (.inl rfl) (pe_callB (call_min2 rfl) (by rfl) (E.free 49) (by decide +kernel) (pa_cons (pe_c (ok_law_take E) (hr.mono (by decide)) rfl (pa_cons (pv 0) (pa_cons (pv 5) pa_nil))) (pa_cons (pe_op op_sub (pe_op op_fdiv (pv 1) (pv 3)) pe_int) pa_nil))))
    (pss_cons (ps_set (i := 3) sc_law_tops.nd rfl (.inl rfl) (pe_op op_mul (pv 3) (pe_op op_add (pv 7) pe_int)))
    (pss_one (ps_expr (pe_bm PySem.F.plainAttrs_list PySem.F.slot_list_append PySem.F.type_list_append mt_append (pv 2) (pa_cons (pv 7) pa_nil)))))))
    (pss_one (ps_ret (pe_callTy (tuple_ofK K) (by rfl) (E.free 40) (by decide +kernel) (pa_cons (pv 2) pa_nil)))))))))), fun g σ Q s fin => ?_⟩
    -- found = []
    refine st_setN s (en_lst (el_nil (α := Int)) (by decide)) (fun lt g h s => ?_)
    -- size = 1
    try dsimp only
    refine st_set s ev_int (fun v g h s => ?_)
    -- many = _law_take(bag, 5)
    try dsimp only
    refine st_setW s (ew_takeC (m := 0) rfl rfl ev_int ⟨by decide, by decide⟩) (fun many hm v g h s => ?_)
    -- high = [4, 4, 9][_law_take(bag, 3)]
    try dsimp only
    refine st_setW (P := fun z : Int => 1 ≤ z ∧ z ≤ 90) s (EvW.imp (ew_op (Ev.w (ev_lstL (el_cons ev_int (el_cons ev_int (el_cons ev_int el_nil))))) (ew_takeC (m := 0) rfl rfl ev_int ⟨by decide, by decide⟩) fun x y px py => ev_ixLD (0 : Int) (ev_var rfl) (ev_var rfl) py.1 (by rw [px]; exact py.2)) fun z ⟨x, y, px, py, hz⟩ => ?_) (fun high hh v g h s => ?_)
    · rw [hz, px]
      have : y = 0 ∨ y = 1 ∨ y = 2 := by omega
      rcases this with rfl | rfl | rfl <;> decide
    -- if many == 1 and _law_take(bag, 4) == 3:
    try dsimp only
    refine st_if_cutW (fun e o => ∃ high cap : Int, (1 ≤ high ∧ high ≤ 90) ∧ (1 ≤ cap ∧ cap ≤ 150) ∧ e = [sv (V.ref l), sv cap, sv (V.ref lt), sv (1 : Int), sv many, sv high, .unk, .unk] ∧ o = [(l, Bag K), (lt, Own.lst K ([] : List Int))]) s
      (ewt_any (ewt_andG (et_test (ev_eqI (ev_var rfl) ev_int)) fun hc => ewt_any (ewt_test (ew_op (ew_takeC (m := 0) rfl rfl ev_int ⟨by decide, by decide⟩) (Ev.w ev_int) fun x y _ _ => ev_eqI (ev_var rfl) (ev_var rfl))))) (fun e o g h σ hJ s => ?_) (fun _ g h N s hN => ?_) (fun _ g h N s hN => ?_)
    · obtain ⟨high, cap, hh, hcap, rfl, rfl⟩ := hJ
      dsimp only
      -- for k in range(many):
      refine st_for_range s (ev_var rfl) (by omega) (by omega) (fun n e o => ∃ (tl : List Int) (size : Int) (s6 s7 : Slot K), e = [sv (V.ref l), sv cap, sv (V.ref lt), sv size, sv many, sv high, s6, s7] ∧ o = [(l, Bag K), (lt, Own.lst K tl)] ∧ tl.length = n ∧ prodF tl = size ∧ (1 ≤ size ∧ size ≤ cap) ∧ ∀ t ∈ tl, 0 ≤ t) ⟨[], _, _, _, rfl, rfl, rfl, rfl, by omega, fun _ z => nomatch z⟩ (fun n hn c hls e o g h σ N hI back s hN => ?_) (fun e o g h σ hI s => ?_)
      · obtain ⟨tl, size, s6, s7, rfl, rfl, htl, hpr, hsz, hall⟩ := hI
        -- top = min(_law_take(bag, high), cap // size - 1)
        try dsimp only
        have hdiv : 1 ≤ cap / size := (Int.le_ediv_iff_mul_le (by omega)).mpr (by omega)
        have hdiv2 : cap / size * size ≤ cap := Int.ediv_mul_le cap (by omega)
        refine st_setW (P := fun z : Int => 0 ≤ z ∧ z + 1 ≤ cap / size) s (EvW.imp (ew_cb2 (ew_takeC (m := 0) rfl rfl (ev_var rfl) ⟨by omega, by omega⟩) (Ev.w (ev_i2 (ev_iC (ev_var rfl) (ev_var rfl) (by exact ⟨by omega, by omega⟩)) ev_int)) fun x y _ _ => ev_min2 (ev_var rfl) (ev_var rfl)) fun z ⟨x, y, px, py, hz⟩ => ?_) (fun top ht v g h s => ?_)
        · rw [hz]; split <;> omega
        have hmul : size * (top + 1) ≤ cap := by
          have : (top + 1) * size ≤ cap / size * size := Int.mul_le_mul_of_nonneg_right ht.2 (by omega)
          rw [Int.mul_comm]; omega
        have hmul1 : 1 ≤ size * (top + 1) := by
          have : 1 * 1 ≤ size * (top + 1) := Int.mul_le_mul hsz.1 (by omega) (by decide) (by omega)
          omega
        -- size = size * (top + 1)
        refine st_set s (ev_iC (ev_var rfl) (ev_i2 (ev_var rfl) ev_int) (by exact .inl ⟨by omega, by omega⟩)) (fun v g h s => ?_)
        -- found.append(top)
        refine st_append (m := 1) s rfl rfl (Nat.lt_of_le_of_lt (show tl.length ≤ 1000 by omega) (by decide)) (ev_var rfl) (fun g h s => ?_)
        refine hN _ _ _ _ _ ⟨tl ++ [top], _, _, _, rfl, rfl, by rw [List.length_append, htl]; rfl, ?_, ⟨hmul1, hmul⟩, fun t ht' => ?_⟩ s
        · rw [← hpr]; unfold prodF; rw [List.foldl_append]; rfl
        · rcases List.mem_append.mp ht' with z | z
          · exact hall t z
          · rw [List.mem_singleton] at z
            rw [z]; exact ht.1
      · obtain ⟨tl, size, s6, s7, rfl, rfl, htl, hpr, hsz, hall⟩ := hI
        dsimp only
        -- return tuple(found)
        refine st_ret s (ev_tupleO (m := 1) rfl rfl) ?_
        exact fun v g h s r => fin v _ g h _ _ _ _ (hP _ ⟨hall, by show tl.length ≤ 4; omega, by show prodF tl ≤ 150; omega⟩) (fun p hp => by rw [List.mem_singleton] at hp; rw [hp]; exact List.mem_cons_self) s (by simp) r
    · -- high = 90
      refine st_set s ev_int (fun v g h s => ?_)
      -- cap = 90
      try dsimp only
      refine st_set s ev_int (fun v g h s => ?_)
      exact hN _ _ _ _ _ ⟨_, _, by decide, by decide, rfl, rfl⟩ s
    · exact hN _ _ _ _ _ ⟨_, _, hh, hcap, rfl, rfl⟩ s
end K14
namespace K14
open PySem PySem.Spec PyProof.Rows L2 Lw RZ
variable {P : Program} {w : World} {K : PySem.W.Frag} {mg : Str → Option Value} {base : Heap}
theorem cut_sub {α : Type} {xs : List α} {lo hi : Option Int} : ∀ x ∈ cut xs lo hi, x ∈ xs := fun x h => List.mem_of_mem_drop (List.mem_of_mem_take h)
theorem cut_le {α : Type} {xs : List α} {lo hi : Option Int} : (cut xs lo hi).length ≤ xs.length := by
  unfold cut
  rw [List.length_take, List.length_drop]
  omega
def a_lbelow (K : PySem.W.Frag) : List (Slot K) → (Bool → Prop) → Prop := fun xs P => ∃ (settings told : List (Tup Int)) (m : Nat), xs = [sv settings, sv (SL.mk told)] ∧ (m ≤ 1000 ∧ settings.length ≤ 5000 ∧ told.length ≤ 5000 ∧ (∀ t ∈ settings, t.l.length = m) ∧ ∀ t ∈ told, t.l.length = m) ∧ P true
theorem sc_law_below : FnScope ["settings", "told", "one", "other", "pair", "found"] ["settings", "told"] (defScope (topS 31)) := ⟨rfl, rfl, rfl, by decide +kernel, rfl, by decide +kernel, by decide +kernel⟩
theorem ok_law_below (E : FX K mg) : Cal P w K mg base "_law_below" 2 ["settings", "told"] (SpR K (a_lbelow K)) := by
  refine E.cal 25 27 (st := topS 31) rfl rfl (fun _ _ _ _ _ _ us hl => match us, hl with | [_, _], _ => rfl) fun f fd F => okRD F sc_law_below (fun xs P' h => ?_) (fun cdv Ar outer s0 H0 E0 hr xs P' h => ?_)
  · obtain ⟨_, _, _, rfl, _⟩ := h; rfl
  · obtain ⟨settings, told, m, rfl, ⟨hm, hz, hz2, hs1, hs2⟩, hP⟩ := h
    refine ⟨_, (pss_cons (ps_for PassesOwn.never rfl (pi_listK K (pv 1)) (pg_name (i := 2) sc_law_below.nd rfl (.inl rfl))
      (pss_one (ps_for PassesOwn.never rfl (pi_listK K (pe_op op_cat (pe_slice (sl_listK K) (pv 0) po_none (po_some pe_int)) (pv 1))) (pg_name (i := 3) sc_law_below.nd rfl (.inl rfl))
      (pss_one (ps_for PassesOwn.never rfl (pi_listK K (pe_lst (pa_cons (pe_tup (pa_cons (pv 2) (pa_cons (pv 3) pa_nil))) (pa_cons (pe_tup (pa_cons (pv 3) (pa_cons (pv 2) pa_nil))) pa_nil)))) (pg_name (i := 4) sc_law_below.nd rfl (.inl rfl))
      (pss_cons (ps_set (i := 5) sc_law_below.nd rfl (.inl rfl) (pe_c (ok_below E) (hr.mono (by decide)) rfl (pa_cons (pe_ix (ix_tupK K) (pv 4) pe_int (fun _ _ => rfl)) (pa_cons (pe_ix (ix_tupK K) (pv 4) pe_int (fun _ _ => rfl)) pa_nil))))
    (pss_one (ps_if (PW.pt (pw_or (pt_not (pt_val (pe_callB (isiK K) (by rfl) (E.free 41) (by decide +kernel) (pa_cons (pv 5) (pa_cons (pe_bltn (v := .ty "bool") (u := .type "bool") (by rfl) (E.free 52) (by decide +kernel) rfl) pa_nil))))) (pw_or1 (pt_cmpR op_ne (pv 5) (pe_c (ok_law_low E) (hr.mono (by decide)) rfl (pa_cons (pe_ix (ix_tupK K) (pv 4) pe_int (fun _ _ => rfl)) (pa_cons (pe_ix (ix_tupK K) (pv 4) pe_int (fun _ _ => rfl)) pa_nil))) (nomark _))))) (pss_one (ps_ret pe_bl)) pss_nil))))))))
    (pss_one (ps_ret pe_bl))), fun g σ Q s fin => ?_⟩
    -- for one in told:
    refine st_for_list tgt_name s (ev_weakS (xs := SL.mk told) (ev_var rfl)) (fun n e o => ∃ s2 s3 s4 s5 : Slot K, e = [sv settings, sv (SL.mk told), s2, s3, s4, s5]) ⟨_, _, _, _, rfl⟩ (fun n one h1 c hls e o g h σ N hI back s hN => ?_) (fun e o g h σ hI s => ?_)
    · obtain ⟨s2, s3, s4, s5, rfl⟩ := hI
      have l1 := hs2 one (List.mem_of_getElem? h1)
      have hcl := cut_le (xs := settings) (lo := none) (hi := some 40)
      -- for other in settings[:40] + told:
      refine st_for_list tgt_name s (EvN.ev (en_cat (EvN.held (en_slL (ev_var rfl) eo_none (eo_some ev_int))) (eh_S (xs := SL.mk told) (ev_var rfl)) (by show _ + told.length ≤ _; omega))) (fun n e o => ∃ s3 s4 s5 : Slot K, e = [sv settings, sv (SL.mk told), sv one, s3, s4, s5]) ⟨_, _, _, rfl⟩ (fun n other h2 c' hls' e o g h σ N' hI back' s hN' => ?_) (fun e o g h σ hI s => ?_)
      · obtain ⟨s3, s4, s5, rfl⟩ := hI
        have l2 : other.l.length = m := by
          rcases List.mem_append.mp (List.mem_of_getElem? h2) with z | z
          · exact hs1 other (cut_sub _ z)
          · exact hs2 other z
        -- for pair in [(one, other), (other, one)]:
        refine st_for_list tgt_name s (ev_lstL (el_cons (ev_pair (ev_var rfl) (ev_var rfl)) (el_cons (ev_pair (ev_var rfl) (ev_var rfl)) el_nil))) (fun n e o => ∃ s4 s5 : Slot K, e = [sv settings, sv (SL.mk told), sv one, sv other, s4, s5]) ⟨_, _, rfl⟩ (fun n pair h3 c'' hls'' e o g h σ N'' hI back'' s hN'' => ?_) (fun e o g h σ hI s => ?_)
        · obtain ⟨s4, s5, rfl⟩ := hI
          have l3 : pair.1.l.length = m ∧ pair.2.l.length = m := by
            have := List.mem_of_getElem? h3
            simp only [List.mem_cons, List.not_mem_nil, or_false] at this
            rcases this with rfl | rfl
            · exact ⟨l1, l2⟩
            · exact ⟨l2, l1⟩
          have l4 : pair.1.l.length = pair.2.l.length := l3.1.trans l3.2.symm
          -- found = below(pair[0], pair[1])
          refine st_set s (ev_call (ea_cons (ev_ixP0 (ev_var rfl)) (ea_cons (ev_ixP1 (ev_var rfl)) ea_nil)) ⟨_, _, rfl, l4, rfl⟩) (fun v g h s => ?_)
          -- if not isinstance(found, bool) or found != _law_low(pair[0], pair[1]):
          refine st_if s (et_or (et_not (et_B (ev_isi (c := true) (x := belowB pair.1.l pair.2.l) (ev_var rfl)))) fun _ => (et_test (ev_neB (ev_var rfl) (ev_call (ea_cons (ev_ixP0 (ev_var rfl)) (ea_cons (ev_ixP1 (ev_var rfl)) ea_nil)) ⟨_, _, rfl, ⟨l4, by rw [l3.1]; exact hm⟩, rfl⟩)))) (fun hc g h s => ?_) (fun hc g h s => ?_)
          · simp at hc
          · exact hN'' _ _ _ _ _ ⟨_, _, rfl⟩ s
        · obtain ⟨s4, s5, rfl⟩ := hI
          exact hN' _ _ _ _ _ ⟨_, _, _, rfl⟩ s
      · obtain ⟨s3, s4, s5, rfl⟩ := hI
        exact hN _ _ _ _ _ ⟨_, _, _, _, rfl⟩ s
    · obtain ⟨s2, s3, s4, s5, rfl⟩ := hI
      dsimp only
      -- return True
      refine st_ret s ev_bl ?_
      exact fun v g h s r => fin v _ g h _ _ _ hP s r
end K14
namespace K14
open PySem PySem.Spec PyProof.Rows L2 Lw RZ
/-! The plain law of the closing. -/
/-! ### below -/
theorem bel_refl : ∀ x : List Int, belowB x x = true
  | [] => rfl
  | a :: x => by rw [below_cons, bel_refl x]; simp
theorem bel_trans : ∀ {x y z : List Int}, x.length = y.length → y.length = z.length → belowB x y = true → belowB y z = true → belowB x z = true
  | [], [], _, _, _, _, _ => rfl
  | a :: x, b :: y, c :: z, h1, h2, p, q => by
    rw [below_cons, Bool.and_eq_true, decide_eq_true_iff] at p q ⊢
    exact ⟨Int.le_trans p.1 q.1, bel_trans (by simpa using h1) (by simpa using h2) p.2 q.2⟩
theorem bel_anti : ∀ {x y : List Int}, x.length = y.length → belowB x y = true → belowB y x = true → x = y
  | [], [], _, _, _ => rfl
  | a :: x, b :: y, h1, p, q => by
    rw [below_cons, Bool.and_eq_true, decide_eq_true_iff] at p q
    rw [show a = b by omega, bel_anti (by simpa using h1) p.2 q.2]
/-! ### codes -/
theorem code_set : ∀ {B : Int} (hB : 1 ≤ B) {x : List Int} {i : Nat} {v : Int}, i < x.length → v < x.getD i 0 → TS.code B (x.set i v) < TS.code B x
  | B, hB, d :: x, 0, v, _, hv => by
    show v * B ^ x.length + TS.code B x < d * B ^ x.length + TS.code B x
    have hv' : v < d := hv
    have hp : 0 < B ^ x.length := Int.pow_pos (by omega)
    have := Int.mul_lt_mul_of_pos_right hv' hp
    omega
  | B, hB, d :: x, i + 1, v, hi, hv => by
    show d * B ^ (x.set i v).length + TS.code B (x.set i v) < d * B ^ x.length + TS.code B x
    rw [List.length_set]
    have := code_set hB (x := x) (i := i) (v := v) (by simpa using hi) hv
    omega
theorem getD_set_self {x : List Int} {i : Nat} {v d : Int} (hi : i < x.length) : (x.set i v).getD i d = v := by
  rw [List.getD_eq_getElem?_getD, List.getElem?_set_self hi]; rfl
theorem code_set' {B : Int} (hB : 1 ≤ B) {x : List Int} {i : Nat} {v : Int} (hi : i < x.length) (hv : x.getD i 0 < v) : TS.code B x < TS.code B (x.set i v) := by
  have h := code_set hB (x := x.set i v) (i := i) (v := x.getD i 0) (by rw [List.length_set]; exact hi) (by rw [getD_set_self hi]; exact hv)
  rw [List.set_set] at h
  have e : x.set i (x.getD i 0) = x := by
    rw [List.getD_eq_getElem?_getD, List.getElem?_eq_getElem hi]
    exact List.set_getElem_self hi
  rwa [e] at h
theorem code_bel : ∀ {B : Int} (hB : 1 ≤ B) {x y : List Int}, x.length = y.length → belowB x y = true → TS.code B x ≤ TS.code B y
  | B, hB, [], [], _, _ => Int.le_refl _
  | B, hB, a :: x, b :: y, h, p => by
    rw [below_cons, Bool.and_eq_true, decide_eq_true_iff] at p
    have hl : x.length = y.length := by simpa using h
    have := code_bel hB hl p.2
    show a * B ^ x.length + TS.code B x ≤ b * B ^ y.length + TS.code B y
    rw [hl]
    have hp : 0 ≤ B ^ y.length := Int.le_of_lt (Int.pow_pos (by omega))
    have := Int.mul_le_mul_of_nonneg_right p.1 hp
    omega
theorem code_lt : ∀ {B : Int} {x : List Int}, TS.Bd B x → 0 ≤ TS.code B x ∧ TS.code B x < B ^ x.length
  | B, [], _ => ⟨Int.le_refl _, by show (0 : Int) < B ^ 0; rw [Int.pow_zero]; decide⟩
  | B, d :: x, h => by
    have ih := code_lt h.tail
    have hd := h.head
    show 0 ≤ d * B ^ x.length + TS.code B x ∧ d * B ^ x.length + TS.code B x < B ^ (x.length + 1)
    have := TS.num1 ih.1 ih.2 hd.1 hd.2
    rw [Int.pow_succ]
    exact this
theorem InS.len {ts x : List Int} (h : InS ts x) : x.length = ts.length := h.length
theorem InS.bd {B : Int} {ts x : List Int} (h : InS ts x) (hb : ∀ t ∈ ts, t < B) : TS.Bd B x := by
  induction h with
  | nil => intro m hm; cases hm
  | cons r _ ih =>
    intro m hm
    rcases List.mem_cons.mp hm with rfl | hm
    · have := hb _ List.mem_cons_self
      exact ⟨r.1, by omega⟩
    · exact ih (fun t ht => hb t (List.mem_cons_of_mem _ ht)) m hm
theorem pw_flat {α β : Type} {R : β → β → Prop} {f : α → List β} : ∀ {L : List α}, (∀ a ∈ L, (f a).Pairwise R) → L.Pairwise (fun a b => ∀ x ∈ f a, ∀ y ∈ f b, R x y) → (L.flatMap f).Pairwise R
  | [], _, _ => .nil
  | a :: L, h1, h2 => by
    rw [List.flatMap_cons, List.pairwise_append]
    rw [List.pairwise_cons] at h2
    refine ⟨h1 a List.mem_cons_self, pw_flat (fun b hb => h1 b (List.mem_cons_of_mem _ hb)) h2.2, fun x hx y hy => ?_⟩
    obtain ⟨b, hb, hy⟩ := List.mem_flatMap.mp hy
    exact h2.1 b hb x hx y hy
theorem upto_pw : ∀ n : Nat, (upto n).Pairwise fun a b => a < b
  | 0 => .nil
  | n + 1 => by
    rw [upto_succ, List.pairwise_append]
    refine ⟨upto_pw n, List.pairwise_singleton _ _, fun x hx y hy => ?_⟩
    rw [List.mem_singleton] at hy
    have := (mem_upto.mp hx).2
    omega
theorem allS_pw {B : Int} : ∀ {ts : List Int}, (∀ t ∈ ts, t < B) → (allS ts).Pairwise fun a b => TS.code B a < TS.code B b
  | [], _ => List.pairwise_singleton _ _
  | t :: ts, hb => by
    have hb' := fun u hu => hb u (List.mem_cons_of_mem t hu)
    have ih := allS_pw hb'
    refine pw_flat (fun l _ => ?_) ?_
    · rw [List.pairwise_map]
      refine ih.imp_of_mem fun {a b} ha hb h => ?_
      show l * B ^ a.length + _ < l * B ^ b.length + _
      rw [(mem_allS.mp ha).len, (mem_allS.mp hb).len]
      omega
    · refine (upto_pw _).imp_of_mem fun {l m} hl hm hlm x hx y hy => ?_
      obtain ⟨a, ha, rfl⟩ := List.mem_map.mp hx
      obtain ⟨c, hc, rfl⟩ := List.mem_map.mp hy
      have ha := mem_allS.mp ha
      have hc := mem_allS.mp hc
      show l * B ^ a.length + TS.code B a < m * B ^ c.length + TS.code B c
      have h1 := code_lt (ha.bd hb')
      have h2 := code_lt (hc.bd hb')
      rw [ha.len] at h1 ⊢
      rw [hc.len] at h2 ⊢
      have h3 : (l + 1) * B ^ ts.length ≤ m * B ^ ts.length := Int.mul_le_mul_of_nonneg_right (by omega) (by omega)
      rw [Int.add_mul, Int.one_mul] at h3
      omega
/-! ### the fold that closes -/
theorem fold_out {nb : List Int → List (List Int)} : ∀ (L : List (List Int)) (S : List Int → Bool) (x : List Int), x ∉ L → (L.foldl (stepB nb) S) x = S x
  | [], _, _, _ => rfl
  | a :: L, S, x, h => by
    rw [List.foldl_cons, fold_out L _ x fun z => h (List.mem_cons_of_mem _ z)]
    unfold stepB
    split
    · have : x ≠ a := fun z => h (z ▸ List.mem_cons_self)
      unfold addK
      simp [this]
    · rfl
theorem fold_at {nb : List Int → List (List Int)} {L : List (List Int)} (S : List Int → Bool) {x : List Int} (hx : x ∈ L) (nd : L.Nodup) (hn : ∀ pre suf, L = pre ++ x :: suf → ∀ y ∈ nb x, y ∈ pre) :
    (L.foldl (stepB nb) S) x = (S x || (nb x).any (L.foldl (stepB nb) S)) := by
  obtain ⟨pre, suf, rfl⟩ := List.append_of_mem hx
  have hpre := hn pre suf rfl
  rw [List.nodup_append] at nd
  obtain ⟨n1, n2, n3⟩ := nd
  rw [List.nodup_cons] at n2
  have xp : x ∉ pre := fun z => n3 x z x List.mem_cons_self rfl
  rw [List.foldl_append, List.foldl_cons]
  generalize hT : pre.foldl (stepB nb) S = T
  have hTx : T x = S x := by rw [← hT]; exact fold_out pre S x xp
  have hend : ∀ y ∈ pre, (suf.foldl (stepB nb) (stepB nb T x)) y = T y := fun y hy => by
    rw [fold_out suf _ y fun z => n3 y hy y (List.mem_cons_of_mem _ z) rfl]
    unfold stepB
    split
    · have : y ≠ x := fun z => xp (z ▸ hy)
      unfold addK
      simp [this]
    · rfl
  have hany : (nb x).any (suf.foldl (stepB nb) (stepB nb T x)) = (nb x).any T := by
    rw [Bool.eq_iff_iff, List.any_eq_true, List.any_eq_true]
    constructor
    · rintro ⟨y, hy, q⟩; exact ⟨y, hy, by rw [← hend y (hpre y hy)]; exact q⟩
    · rintro ⟨y, hy, q⟩; exact ⟨y, hy, by rw [hend y (hpre y hy)]; exact q⟩
  rw [hany, fold_out suf _ x n2.1, ← hTx]
  unfold stepB
  split
  · rename_i h
    unfold addK
    simp [h]
  · rename_i h
    simp [h]
end K14
namespace K14
open PySem PySem.Spec PyProof.Rows L2 Lw RZ
theorem gd_set {x : List Int} {k : Nat} {v : Int} (hk : k < x.length) (j : Nat) : (x.set k v).getD j 0 = if j = k then v else x.getD j 0 := by
  by_cases h : j = k
  · rw [h, if_pos rfl, getD_set_self hk]
  · rw [if_neg h, List.getD_eq_getElem?_getD, List.getElem?_set_ne (fun z => h z.symm), List.getD_eq_getElem?_getD]
theorem InS.at {ts x : List Int} (h : InS ts x) (k : Nat) : k < x.length → 0 ≤ x.getD k 0 ∧ x.getD k 0 ≤ ts.getD k 0 := by
  induction h generalizing k with
  | nil => intro hk; exact absurd hk (Nat.not_lt_zero _)
  | cons r _ ih =>
    intro hk
    cases k with
    | zero => exact r
    | succ k => exact ih k (by simpa using hk)
theorem InS.of {ts x : List Int} (hl : x.length = ts.length) (h : ∀ k, k < x.length → 0 ≤ x.getD k 0 ∧ x.getD k 0 ≤ ts.getD k 0) : InS ts x := by
  induction x generalizing ts with
  | nil =>
    cases ts with
    | nil => exact .nil
    | cons _ _ => simp at hl
  | cons a x ih =>
    cases ts with
    | nil => simp at hl
    | cons t ts => exact .cons (h 0 (by simp)) (ih (by simpa using hl) fun k hk => h (k + 1) (by simpa using hk))
theorem InS.set {ts x : List Int} (h : InS ts x) {k : Nat} {v : Int} (hk : k < x.length) (h0 : 0 ≤ v) (h1 : v ≤ ts.getD k 0) : InS ts (x.set k v) := by
  refine InS.of (by rw [List.length_set]; exact h.len) fun j hj => ?_
  rw [List.length_set] at hj
  rw [gd_set hk]
  by_cases e : j = k
  · rw [if_pos e, e]; exact ⟨h0, h1⟩
  · rw [if_neg e]; exact h.at j hj
theorem mem_low {x y : List Int} : y ∈ lowF x ↔ ∃ k, k < x.length ∧ 0 < x.getD k 0 ∧ y = x.set k (x.getD k 0 - 1) := by
  unfold lowF
  rw [List.mem_map]
  constructor
  · rintro ⟨i, hi, rfl⟩
    obtain ⟨h1, h2⟩ := List.mem_filter.mp hi
    have := mem_upto.mp h1
    exact ⟨i.toNat, by omega, of_decide_eq_true h2, rfl⟩
  · rintro ⟨k, hk, h0, rfl⟩
    exact ⟨(k : Int), List.mem_filter.mpr ⟨mem_upto.mpr ⟨by omega, by omega⟩, by rw [Int.toNat_natCast]; exact decide_eq_true h0⟩, by rw [Int.toNat_natCast]⟩
theorem mem_rai {ts x y : List Int} : y ∈ raiF ts x ↔ ∃ k, k < x.length ∧ x.getD k 0 < ts.getD k 0 ∧ y = x.set k (x.getD k 0 + 1) := by
  unfold raiF
  rw [List.mem_map]
  constructor
  · rintro ⟨i, hi, rfl⟩
    obtain ⟨h1, h2⟩ := List.mem_filter.mp hi
    have := mem_upto.mp h1
    exact ⟨i.toNat, by omega, of_decide_eq_true h2, rfl⟩
  · rintro ⟨k, hk, h0, rfl⟩
    exact ⟨(k : Int), List.mem_filter.mpr ⟨mem_upto.mpr ⟨by omega, by omega⟩, by rw [Int.toNat_natCast]; exact decide_eq_true h0⟩, by rw [Int.toNat_natCast]⟩
theorem told_iff {told : List (Tup Int)} {x : List Int} : toldS told x = true ↔ ∃ t ∈ told, t.l = x := by
  have key : ∀ (L : List (Tup Int)) (S : List Int → Bool), (L.foldl (fun S x => addK S x.l) S) x = true ↔ S x = true ∨ ∃ t ∈ L, t.l = x := by
    intro L
    induction L with
    | nil => intro S; simp
    | cons a L ih =>
      intro S
      rw [List.foldl_cons, ih]
      unfold addK
      simp only [Bool.or_eq_true, decide_eq_true_iff, List.mem_cons]
      constructor
      · rintro ((h | h) | ⟨t, ht, e⟩)
        · exact .inl h
        · exact .inr ⟨a, .inl rfl, h.symm⟩
        · exact .inr ⟨t, .inr ht, e⟩
      · rintro (h | ⟨t, rfl | ht, e⟩)
        · exact .inl (.inl h)
        · exact .inl (.inr e.symm)
        · exact .inr ⟨t, ht, e⟩
  unfold toldS
  rw [key]
  simp
/-- a place where they differ -/
theorem bel_ne {x y : List Int} (hl : x.length = y.length) (h : belowB x y = true) (hne : x ≠ y) : ∃ k, k < x.length ∧ x.getD k 0 < y.getD k 0 := by
  apply Classical.byContradiction
  intro hn
  refine hne (bel_anti hl h ((below_all y x hl.symm).mpr fun k hk => ?_))
  apply Classical.byContradiction
  intro hk2
  exact hn ⟨k, by omega, by omega⟩
theorem ab_iff {told : List (Tup Int)} {x : List Int} : abF told x = true ↔ ∃ t ∈ told, belowB t.l x = true := by unfold abF; exact List.any_eq_true
theorem be_iff {told : List (Tup Int)} {x : List Int} : beF told x = true ↔ ∃ t ∈ told, belowB x t.l = true := by unfold beF; exact List.any_eq_true
theorem ab_step {ts : List Int} {told : List (Tup Int)} (ht : ∀ t ∈ told, InS ts t.l) {x : List Int} (hx : InS ts x) : abF told x = true ↔ toldS told x = true ∨ ∃ y ∈ lowF x, abF told y = true := by
  rw [ab_iff, told_iff]
  constructor
  · rintro ⟨t, h1, h2⟩
    by_cases e : t.l = x
    · exact .inl ⟨t, h1, e⟩
    · have hl : t.l.length = x.length := (ht t h1).len.trans hx.len.symm
      obtain ⟨k, hk, hlt⟩ := bel_ne hl h2 e
      have h0 := ((ht t h1).at k hk).1
      refine .inr ⟨_, mem_low.mpr ⟨k, by omega, by omega, rfl⟩, ab_iff.mpr ⟨t, h1, ?_⟩⟩
      refine (below_all _ _ (by rw [List.length_set]; exact hl)).mpr fun j hj => ?_
      rw [gd_set (by omega)]
      split
      · rename_i e; rw [e]; omega
      · exact (below_all _ _ hl).mp h2 j hj
  · rintro (⟨t, h1, e⟩ | ⟨y, hy, q⟩)
    · exact ⟨t, h1, by rw [e]; exact bel_refl x⟩
    · obtain ⟨t, h1, h2⟩ := ab_iff.mp q
      obtain ⟨k, hk, h0, rfl⟩ := mem_low.mp hy
      have hl : t.l.length = x.length := (ht t h1).len.trans hx.len.symm
      refine ⟨t, h1, bel_trans (y := x.set k (x.getD k 0 - 1)) (by rw [List.length_set]; exact hl) (by rw [List.length_set]) h2 ?_⟩
      refine (below_all _ _ (by rw [List.length_set])).mpr fun j hj => ?_
      rw [gd_set hk]
      split
      · rename_i e; rw [e]; omega
      · exact Int.le_refl _
theorem be_step {ts : List Int} {told : List (Tup Int)} (ht : ∀ t ∈ told, InS ts t.l) {x : List Int} (hx : InS ts x) : beF told x = true ↔ toldS told x = true ∨ ∃ y ∈ raiF ts x, beF told y = true := by
  rw [be_iff, told_iff]
  constructor
  · rintro ⟨t, h1, h2⟩
    by_cases e : t.l = x
    · exact .inl ⟨t, h1, e⟩
    · have hl : x.length = t.l.length := hx.len.trans (ht t h1).len.symm
      obtain ⟨k, hk, hlt⟩ := bel_ne hl h2 fun z => e z.symm
      have h0 := ((ht t h1).at k (by omega)).2
      refine .inr ⟨_, mem_rai.mpr ⟨k, by omega, by omega, rfl⟩, be_iff.mpr ⟨t, h1, ?_⟩⟩
      refine (below_all _ _ (by rw [List.length_set]; exact hl)).mpr fun j hj => ?_
      rw [List.length_set] at hj
      rw [gd_set (by omega)]
      split
      · rename_i e; rw [e]; omega
      · exact (below_all _ _ hl).mp h2 j hj
  · rintro (⟨t, h1, e⟩ | ⟨y, hy, q⟩)
    · exact ⟨t, h1, by rw [e]; exact bel_refl x⟩
    · obtain ⟨t, h1, h2⟩ := be_iff.mp q
      obtain ⟨k, hk, h0, rfl⟩ := mem_rai.mp hy
      have hl : x.length = t.l.length := hx.len.trans (ht t h1).len.symm
      refine ⟨t, h1, bel_trans (y := x.set k (x.getD k 0 + 1)) (by rw [List.length_set]) (by rw [List.length_set]; exact hl) ?_ h2⟩
      refine (below_all _ _ (by rw [List.length_set])).mpr fun j hj => ?_
      rw [gd_set hk]
      split
      · rename_i e; rw [e]; omega
      · exact Int.le_refl _
end K14
namespace K14
open PySem PySem.Spec PyProof.Rows L2 Lw RZ
theorem pre_of {α : Type} {L pre suf : List α} {x y : α} {c : α → Int} (hpw : L.Pairwise fun a b => c a < c b) (e : L = pre ++ x :: suf) (hy : y ∈ L) (hlt : c y < c x) : y ∈ pre := by
  subst e
  rw [List.pairwise_append, List.pairwise_cons] at hpw
  rcases List.mem_append.mp hy with z | z
  · exact z
  · rcases List.mem_cons.mp z with rfl | z
    · omega
    · have := hpw.2.1.1 y z
      omega
theorem up_ab {ts : List Int} {B : Int} (hB : 1 ≤ B) (hb : ∀ t ∈ ts, t < B) {told : List (Tup Int)} (ht : ∀ t ∈ told, InS ts t.l) : ∀ x, InS ts x → upF ts told x = abF told x := by
  have pw := allS_pw (ts := ts) hb
  have nd : (allS ts).Nodup := pw.imp fun {a b} h e => by rw [e] at h; omega
  have key : ∀ (n : Nat) (x : List Int), InS ts x → (TS.code B x).toNat = n → upF ts told x = abF told x := by
    intro n
    induction n using Nat.strongRecOn with
    | ind n ih =>
      intro x hx hn
      have hnb : ∀ y ∈ lowF x, InS ts y ∧ TS.code B y < TS.code B x := fun y hy => by
        obtain ⟨k, hk, h0, rfl⟩ := mem_low.mp hy
        exact ⟨hx.set hk (by omega) (by have := (hx.at k hk).2; omega), code_set hB hk (by omega)⟩
      have e : upF ts told x = (toldS told x || (lowF x).any (upF ts told)) := fold_at (toldS told) (mem_allS.mpr hx) nd fun pre suf e y hy => pre_of pw e (mem_allS.mpr (hnb y hy).1) (hnb y hy).2
      rw [e, Bool.eq_iff_iff, ab_step ht hx, Bool.or_eq_true, List.any_eq_true]
      have q : ∀ y ∈ lowF x, upF ts told y = abF told y := fun y hy => by
        have h1 := code_lt ((hnb y hy).1.bd hb)
        exact ih _ (by have := (hnb y hy).2; omega) y (hnb y hy).1 rfl
      constructor
      · rintro (h | ⟨y, hy, h⟩)
        · exact .inl h
        · exact .inr ⟨y, hy, by rw [← q y hy]; exact h⟩
      · rintro (h | ⟨y, hy, h⟩)
        · exact .inl h
        · exact .inr ⟨y, hy, by rw [q y hy]; exact h⟩
  exact fun x hx => key _ x hx rfl
theorem down_be {ts : List Int} {B : Int} (hB : 1 ≤ B) (hb : ∀ t ∈ ts, t < B) {told : List (Tup Int)} (ht : ∀ t ∈ told, InS ts t.l) : ∀ x, InS ts x → downF ts told x = beF told x := by
  have pw0 := allS_pw (ts := ts) hb
  have pw : (allS ts).reverse.Pairwise fun a b => -TS.code B a < -TS.code B b := by
    rw [List.pairwise_reverse]
    exact pw0.imp fun h => by omega
  have nd : (allS ts).reverse.Nodup := pw.imp fun {a b} h e => by rw [e] at h; omega
  have key : ∀ (n : Nat) (x : List Int), InS ts x → (B ^ ts.length - TS.code B x).toNat = n → downF ts told x = beF told x := by
    intro n
    induction n using Nat.strongRecOn with
    | ind n ih =>
      intro x hx hn
      have hnb : ∀ y ∈ raiF ts x, InS ts y ∧ TS.code B x < TS.code B y := fun y hy => by
        obtain ⟨k, hk, h0, rfl⟩ := mem_rai.mp hy
        exact ⟨hx.set hk (by have := (hx.at k hk).1; omega) (by omega), code_set' hB hk (by omega)⟩
      have e : downF ts told x = (toldS told x || (raiF ts x).any (downF ts told)) := fold_at (toldS told) (List.mem_reverse.mpr (mem_allS.mpr hx)) nd fun pre suf e y hy => pre_of pw e (List.mem_reverse.mpr (mem_allS.mpr (hnb y hy).1)) (by have := (hnb y hy).2; omega)
      rw [e, Bool.eq_iff_iff, be_step ht hx, Bool.or_eq_true, List.any_eq_true]
      have q : ∀ y ∈ raiF ts x, downF ts told y = beF told y := fun y hy => by
        have h1 := code_lt ((hnb y hy).1.bd hb)
        rw [(hnb y hy).1.len] at h1
        exact ih _ (by have := (hnb y hy).2; omega) y (hnb y hy).1 rfl
      constructor
      · rintro (h | ⟨y, hy, h⟩)
        · exact .inl h
        · exact .inr ⟨y, hy, by rw [← q y hy]; exact h⟩
      · rintro (h | ⟨y, hy, h⟩)
        · exact .inl h
        · exact .inr ⟨y, hy, by rw [q y hy]; exact h⟩
  exact fun x hx => key _ x hx rfl
/-! ### the ends that a scan picks -/
def pickS (le : List Int → List Int → Bool) (ends : List (Tup Int)) (x : Tup Int) : List (Tup Int) := if (ends.any fun t => le x.l t.l) = true then ends else ends ++ [x]
def pick (le : List Int → List Int → Bool) (R : List (Tup Int)) : List (Tup Int) := R.foldl (pickS le) []
theorem pick_ok {le : List Int → List Int → Bool} {R : List (Tup Int)} (hr : ∀ a ∈ R, le a.l a.l = true) (htr : ∀ a ∈ R, ∀ b ∈ R, ∀ c ∈ R, le a.l b.l = true → le b.l c.l = true → le a.l c.l = true) (hpw : R.Pairwise fun a b => le a.l b.l = false) :
    (∀ x, x ∈ pick le R ↔ x ∈ R ∧ ∀ z ∈ R, le x.l z.l = true → z = x) ∧ ∀ z ∈ R, ∃ e ∈ pick le R, le z.l e.l = true := by
  have key : ∀ (suf pre acc : List (Tup Int)), R = pre ++ suf → ((∀ x, x ∈ acc ↔ x ∈ pre ∧ ∀ z ∈ pre, le x.l z.l = true → z = x) ∧ ∀ z ∈ pre, ∃ e ∈ acc, le z.l e.l = true) →
      ((∀ x, x ∈ suf.foldl (pickS le) acc ↔ x ∈ R ∧ ∀ z ∈ R, le x.l z.l = true → z = x) ∧ ∀ z ∈ R, ∃ e ∈ suf.foldl (pickS le) acc, le z.l e.l = true) := by
    intro suf
    induction suf with
    | nil => intro pre acc e h; rw [List.append_nil] at e; rw [e]; exact h
    | cons a suf ih =>
      intro pre acc e ⟨h1, h2⟩
      have hpa : ∀ p ∈ pre, le p.l a.l = false := by
        rw [e, List.pairwise_append] at hpw
        exact fun p hp => hpw.2.2 p hp a List.mem_cons_self
      have ha : a ∈ R := by rw [e]; exact List.mem_append_right _ List.mem_cons_self
      have hp : ∀ p ∈ pre, p ∈ R := fun p h => by rw [e]; exact List.mem_append_left _ h
      refine ih (pre ++ [a]) (pickS le acc a) (by rw [e]; simp) ?_
      unfold pickS
      split
      · rename_i hc
        obtain ⟨u, hu, hau⟩ := List.any_eq_true.mp hc
        have hup := ((h1 u).mp hu).1
        constructor
        · intro x
          rw [h1 x]
          constructor
          · rintro ⟨q1, q2⟩
            refine ⟨List.mem_append_left _ q1, fun z hz hle => ?_⟩
            rcases List.mem_append.mp hz with hz | hz
            · exact q2 z hz hle
            · rw [List.mem_singleton] at hz
              rw [hz, hpa x q1] at hle
              cases hle
          · rintro ⟨q1, q2⟩
            rcases List.mem_append.mp q1 with q1 | q1
            · exact ⟨q1, fun z hz => q2 z (List.mem_append_left _ hz)⟩
            · rw [List.mem_singleton] at q1
              subst q1
              have := q2 u (List.mem_append_left _ hup) hau
              subst this
              have := hpa _ hup
              rw [hr _ ha] at this
              cases this
        · intro z hz
          rcases List.mem_append.mp hz with hz | hz
          · exact h2 z hz
          · rw [List.mem_singleton] at hz
            subst hz
            exact ⟨u, hu, hau⟩
      · rename_i hc
        have hc' : ∀ u ∈ acc, ¬ le a.l u.l = true := fun u hu q => hc (List.any_eq_true.mpr ⟨u, hu, q⟩)
        constructor
        · intro x
          rw [List.mem_append, h1 x]
          constructor
          · rintro (⟨q1, q2⟩ | q1)
            · refine ⟨List.mem_append_left _ q1, fun z hz hle => ?_⟩
              rcases List.mem_append.mp hz with hz | hz
              · exact q2 z hz hle
              · rw [List.mem_singleton] at hz
                rw [hz, hpa x q1] at hle
                cases hle
            · rw [List.mem_singleton] at q1
              subst q1
              refine ⟨List.mem_append_right _ List.mem_cons_self, fun z hz hle => ?_⟩
              rcases List.mem_append.mp hz with hz | hz
              · obtain ⟨u, hu, hzu⟩ := h2 z hz
                exact absurd (htr _ ha _ (hp z hz) _ (hp u ((h1 u).mp hu).1) hle hzu) (hc' u hu)
              · rw [List.mem_singleton] at hz
                exact hz
          · rintro ⟨q1, q2⟩
            rcases List.mem_append.mp q1 with q1 | q1
            · exact .inl ⟨q1, fun z hz => q2 z (List.mem_append_left _ hz)⟩
            · exact .inr q1
        · intro z hz
          rcases List.mem_append.mp hz with hz | hz
          · obtain ⟨u, hu, q⟩ := h2 z hz
            exact ⟨u, List.mem_append_left _ hu, q⟩
          · rw [List.mem_singleton] at hz
            subst hz
            exact ⟨_, List.mem_append_right _ List.mem_cons_self, hr _ ha⟩
  exact key R [] [] rfl ⟨fun x => by simp, fun z hz => nomatch hz⟩
end K14
namespace K14
open PySem PySem.Spec PyProof.Rows L2 Lw RZ
theorem pw_unique {α : Type} {c : α → Int} : ∀ {L M : List α}, L.Pairwise (fun a b => c a < c b) → M.Pairwise (fun a b => c a < c b) → (∀ x, x ∈ L ↔ x ∈ M) → L = M
  | [], [], _, _, _ => rfl
  | [], b :: M, _, _, h => nomatch (h b).mpr List.mem_cons_self
  | a :: L, [], _, _, h => nomatch (h a).mp List.mem_cons_self
  | a :: L, b :: M, p, q, h => by
    rw [List.pairwise_cons] at p q
    have e : a = b := by
      rcases List.mem_cons.mp ((h a).mp List.mem_cons_self) with z | z
      · exact z
      · rcases List.mem_cons.mp ((h b).mpr List.mem_cons_self) with z' | z'
        · exact z'.symm
        · have := q.1 a z
          have := p.1 b z'
          omega
    subst e
    rw [pw_unique p.2 q.2 fun x => ?_]
    have hx := h x
    rw [List.mem_cons, List.mem_cons] at hx
    constructor
    · intro z
      rcases hx.mp (.inr z) with w | w
      · subst w; have := p.1 _ z; omega
      · exact w
    · intro z
      rcases hx.mpr (.inr z) with w | w
      · subst w; have := q.1 _ z; omega
      · exact w
def cB (B : Int) (a : Tup Int) : Int := TS.code B a.l
section
variable {ts : List Int} {B : Int} (hB : 1 ≤ B) (hb : ∀ t ∈ ts, t < B)
include hB hb
theorem great_mem {L : List (Tup Int)} (hL : ∀ t ∈ L, InS ts t.l) (hpw : L.Pairwise fun a b => cB B a < cB B b) :
    (∀ x, x ∈ greatF L ↔ x ∈ L ∧ ∀ z ∈ L, belowB x.l z.l = true → z = x) ∧ ∀ z ∈ L, ∃ e ∈ greatF L, belowB z.l e.l = true := by
  have hl : ∀ a ∈ L, ∀ b ∈ L, a.l.length = b.l.length := fun a ha b hb => (hL a ha).len.trans (hL b hb).len.symm
  have h := pick_ok (le := fun x t => belowB x t) (R := L.reverse) (fun a _ => bel_refl a.l) (fun a ha b hb' c hc p q => bel_trans (hl a (List.mem_reverse.mp ha) b (List.mem_reverse.mp hb')) (hl b (List.mem_reverse.mp hb') c (List.mem_reverse.mp hc)) p q) (by
    rw [List.pairwise_reverse]
    refine hpw.imp_of_mem fun {a b} ha hb' h => ?_
    cases q : belowB b.l a.l with
    | false => rfl
    | true =>
      have := code_bel hB (hl b hb' a ha) q
      unfold cB at h
      omega)
  have e : ∀ x, x ∈ greatF L ↔ x ∈ pick (fun x t => belowB x t) L.reverse := fun x => List.mem_reverse
  constructor
  · intro x
    rw [e x, h.1 x, List.mem_reverse]
    exact ⟨fun ⟨a, b⟩ => ⟨a, fun z hz => b z (List.mem_reverse.mpr hz)⟩, fun ⟨a, b⟩ => ⟨a, fun z hz => b z (List.mem_reverse.mp hz)⟩⟩
  · intro z hz
    obtain ⟨u, hu, q⟩ := h.2 z (List.mem_reverse.mpr hz)
    exact ⟨u, (e u).mpr hu, q⟩
theorem least_mem {L : List (Tup Int)} (hL : ∀ t ∈ L, InS ts t.l) (hpw : L.Pairwise fun a b => cB B a < cB B b) :
    (∀ x, x ∈ leastF L ↔ x ∈ L ∧ ∀ z ∈ L, belowB z.l x.l = true → z = x) ∧ ∀ z ∈ L, ∃ e ∈ leastF L, belowB e.l z.l = true := by
  have hl : ∀ a ∈ L, ∀ b ∈ L, a.l.length = b.l.length := fun a ha b hb => (hL a ha).len.trans (hL b hb).len.symm
  exact pick_ok (le := fun x t => belowB t x) (R := L) (fun a _ => bel_refl a.l) (fun a ha b hb' c hc p q => bel_trans (hl c hc b hb') (hl b hb' a ha) q p) (hpw.imp_of_mem fun {a b} ha hb' h => by
    show belowB b.l a.l = false
    cases q : belowB b.l a.l with
    | false => rfl
    | true =>
      have := code_bel hB (hl b hb' a ha) q
      unfold cB at h
      omega)
omit hB hb in
theorem least_sublist (L : List (Tup Int)) : (leastF L).Sublist L := by
  have key : ∀ (L acc pre : List (Tup Int)), acc.Sublist pre → (L.foldl (pickS fun x t => belowB t x) acc).Sublist (pre ++ L) := by
    intro L
    induction L with
    | nil => intro acc pre h; rw [List.append_nil]; exact h
    | cons a L ih =>
      intro acc pre h
      have := ih (pickS (fun x t => belowB t x) acc a) (pre ++ [a]) (by
        unfold pickS
        split
        · exact h.trans (List.sublist_append_left _ _)
        · exact h.append (List.Sublist.refl _))
      rw [List.append_assoc] at this
      exact this
  exact key L [] [] (List.Sublist.refl _)
/-- the settings as tuples -/
def sT (ts : List Int) : List (Tup Int) := (allS ts).map Tup.mk
omit hB hb in
theorem mem_sT {x : Tup Int} : x ∈ sT ts ↔ InS ts x.l := by
  unfold sT
  rw [List.mem_map]
  exact ⟨fun ⟨y, hy, e⟩ => by rw [← e]; exact mem_allS.mp hy, fun h => ⟨x.l, mem_allS.mpr h, rfl⟩⟩
omit hB in
theorem sT_pw : (sT ts).Pairwise fun a b => cB B a < cB B b := by
  unfold sT
  rw [List.pairwise_map]
  exact allS_pw hb
omit hB hb in
theorem ab_mono {told : List (Tup Int)} (ht : ∀ t ∈ told, InS ts t.l) {x y : List Int} (hx : InS ts x) (hy : InS ts y) (h : belowB x y = true) (q : abF told x = true) : abF told y = true := by
  obtain ⟨t, h1, h2⟩ := ab_iff.mp q
  exact ab_iff.mpr ⟨t, h1, bel_trans ((ht t h1).len.trans hx.len.symm) (hx.len.trans hy.len.symm) h2 h⟩
omit hB hb in
theorem be_mono {told : List (Tup Int)} (ht : ∀ t ∈ told, InS ts t.l) {x y : List Int} (hx : InS ts x) (hy : InS ts y) (h : belowB x y = true) (q : beF told y = true) : beF told x = true := by
  obtain ⟨t, h1, h2⟩ := be_iff.mp q
  exact be_iff.mpr ⟨t, h1, bel_trans (hx.len.trans hy.len.symm) (hy.len.trans (ht t h1).len.symm) h h2⟩
omit hB hb in
theorem bel_set_up {x : List Int} {k : Nat} (hk : k < x.length) : belowB x (x.set k (x.getD k 0 + 1)) = true := by
  refine (below_all _ _ (by rw [List.length_set])).mpr fun j hj => ?_
  rw [gd_set hk]
  split
  · rename_i e; rw [e]; omega
  · exact Int.le_refl _
omit hB hb in
theorem bel_set_down {x : List Int} {k : Nat} (hk : k < x.length) : belowB (x.set k (x.getD k 0 - 1)) x = true := by
  refine (below_all _ _ (by rw [List.length_set])).mpr fun j hj => ?_
  rw [gd_set hk]
  split
  · rename_i e; rw [e]; omega
  · exact Int.le_refl _
/-- the keepers are the greatest free settings -/
theorem keep_eq {told : List (Tup Int)} (ht : ∀ t ∈ told, InS ts t.l) : (keepF ts told).map Tup.mk = greatF ((sT ts).filter fun x => !abF told x.l) := by
  have hF : ∀ t ∈ (sT ts).filter (fun x => !abF told x.l), InS ts t.l := fun t h => mem_sT.mp (List.mem_filter.mp h).1
  have hFp : ((sT ts).filter fun x => !abF told x.l).Pairwise fun a b => cB B a < cB B b := (sT_pw hb).sublist List.filter_sublist
  have hG := great_mem hB hb hF hFp
  refine pw_unique (c := cB B) ?_ (hFp.sublist (great_sub _)) fun x => ?_
  · rw [List.pairwise_map]
    exact (allS_pw hb).sublist List.filter_sublist
  · rw [hG.1 x, List.mem_filter, mem_sT]
    unfold keepF
    rw [List.mem_map]
    constructor
    · rintro ⟨y, hy, rfl⟩
      obtain ⟨h1, h2⟩ := List.mem_filter.mp hy
      have h1 := mem_allS.mp h1
      rw [Bool.and_eq_true, up_ab hB hb ht y h1, List.all_eq_true] at h2
      refine ⟨⟨h1, h2.1⟩, fun z hz hle => ?_⟩
      apply Classical.byContradiction
      intro hne
      have hzS := hF z hz
      obtain ⟨k, hk, hlt⟩ := bel_ne (h1.len.trans hzS.len.symm) hle fun e => hne (by cases z; exact congrArg Tup.mk e.symm)
      have hzk := (hzS.at k (by rw [hzS.len, ← h1.len]; exact hk)).2
      have hyS := h1.set hk (v := y.getD k 0 + 1) (by have := (h1.at k hk).1; omega) (by omega)
      have := h2.2 _ (mem_rai.mpr ⟨k, hk, by omega, rfl⟩)
      rw [up_ab hB hb ht _ hyS] at this
      have hle2 : belowB (y.set k (y.getD k 0 + 1)) z.l = true := by
        refine (below_all _ _ (hyS.len.trans hzS.len.symm)).mpr fun j hj => ?_
        rw [gd_set hk]
        split
        · rename_i e; rw [e]; omega
        · exact (below_all _ _ (h1.len.trans hzS.len.symm)).mp hle j (by rw [List.length_set] at hj; exact hj)
      have := ab_mono ht hyS hzS hle2 this
      have hz2 := (List.mem_filter.mp hz).2
      rw [this] at hz2
      cases hz2
    · rintro ⟨⟨h1, h2⟩, h3⟩
      refine ⟨x.l, List.mem_filter.mpr ⟨mem_allS.mpr h1, ?_⟩, rfl⟩
      rw [Bool.and_eq_true, up_ab hB hb ht x.l h1, List.all_eq_true]
      refine ⟨h2, fun y hy => ?_⟩
      obtain ⟨k, hk, hlt, rfl⟩ := mem_rai.mp hy
      have hyS := h1.set hk (v := x.l.getD k 0 + 1) (by have := (h1.at k hk).1; omega) (by omega)
      rw [up_ab hB hb ht _ hyS]
      cases q : abF told (x.l.set k (x.l.getD k 0 + 1)) with
      | true => rfl
      | false =>
        have := h3 ⟨x.l.set k (x.l.getD k 0 + 1)⟩ (List.mem_filter.mpr ⟨mem_sT.mpr hyS, by rw [q]; rfl⟩) (bel_set_up hk)
        have hc := code_set' hB hk (v := x.l.getD k 0 + 1) (by omega)
        have e := congrArg (fun a : Tup Int => TS.code B a.l) this
        dsimp only at e
        omega
end
end K14
namespace K14
open PySem PySem.Spec PyProof.Rows L2 Lw RZ
section
variable {ts : List Int} {B : Int} (hB : 1 ≤ B) (hb : ∀ t ∈ ts, t < B)
include hB hb
/-- the breakers are the least settings left -/
theorem break_eq {told : List (Tup Int)} (ht : ∀ t ∈ told, InS ts t.l) : (breakF ts told).map Tup.mk = leastF ((sT ts).filter fun x => !beF told x.l) := by
  have hF : ∀ t ∈ (sT ts).filter (fun x => !beF told x.l), InS ts t.l := fun t h => mem_sT.mp (List.mem_filter.mp h).1
  have hFp : ((sT ts).filter fun x => !beF told x.l).Pairwise fun a b => cB B a < cB B b := (sT_pw hb).sublist List.filter_sublist
  have hG := least_mem hB hb hF hFp
  refine pw_unique (c := cB B) ?_ (hFp.sublist (least_sublist _)) fun x => ?_
  · rw [List.pairwise_map]
    exact (allS_pw hb).sublist List.filter_sublist
  · rw [hG.1 x, List.mem_filter, mem_sT]
    unfold breakF
    rw [List.mem_map]
    constructor
    · rintro ⟨y, hy, rfl⟩
      obtain ⟨h1, h2⟩ := List.mem_filter.mp hy
      have h1 := mem_allS.mp h1
      rw [Bool.and_eq_true, down_be hB hb ht y h1, List.all_eq_true] at h2
      refine ⟨⟨h1, h2.1⟩, fun z hz hle => ?_⟩
      apply Classical.byContradiction
      intro hne
      have hzS := hF z hz
      obtain ⟨k, hk, hlt⟩ := bel_ne (hzS.len.trans h1.len.symm) hle fun e => hne (by cases z; exact congrArg Tup.mk e)
      have hk2 : k < y.length := by rw [h1.len, ← hzS.len]; exact hk
      have hzk := (hzS.at k hk).1
      have hyS := h1.set hk2 (v := y.getD k 0 - 1) (by omega) (by have := (h1.at k hk2).2; omega)
      have := h2.2 _ (mem_low.mpr ⟨k, hk2, by omega, rfl⟩)
      rw [down_be hB hb ht _ hyS] at this
      have hle2 : belowB z.l (y.set k (y.getD k 0 - 1)) = true := by
        refine (below_all _ _ (hzS.len.trans hyS.len.symm)).mpr fun j hj => ?_
        rw [gd_set hk2]
        split
        · rename_i e; rw [e]; omega
        · exact (below_all _ _ (hzS.len.trans h1.len.symm)).mp hle j hj
      have := be_mono ht hzS hyS hle2 this
      have hz2 := (List.mem_filter.mp hz).2
      rw [this] at hz2
      cases hz2
    · rintro ⟨⟨h1, h2⟩, h3⟩
      refine ⟨x.l, List.mem_filter.mpr ⟨mem_allS.mpr h1, ?_⟩, rfl⟩
      rw [Bool.and_eq_true, down_be hB hb ht x.l h1, List.all_eq_true]
      refine ⟨h2, fun y hy => ?_⟩
      obtain ⟨k, hk, hlt, rfl⟩ := mem_low.mp hy
      have hyS := h1.set hk (v := x.l.getD k 0 - 1) (by omega) (by have := (h1.at k hk).2; omega)
      rw [down_be hB hb ht _ hyS]
      cases q : beF told (x.l.set k (x.l.getD k 0 - 1)) with
      | true => rfl
      | false =>
        have := h3 ⟨x.l.set k (x.l.getD k 0 - 1)⟩ (List.mem_filter.mpr ⟨mem_sT.mpr hyS, by rw [q]; rfl⟩) (bel_set_down hk)
        have hc := code_set hB hk (v := x.l.getD k 0 - 1) (by omega)
        have e := congrArg (fun a : Tup Int => TS.code B a.l) this
        dsimp only at e
        omega
/-- the told ones among the settings -/
theorem great_members {told : List (Tup Int)} (ht : ∀ t ∈ told, InS ts t.l) {p : Tup Int → Bool} (hp : ∀ x, p x = true ↔ x ∈ told) : greatF ((sT ts).filter fun x => beF told x.l) = greatF ((sT ts).filter p) := by
  have h1 : ∀ t ∈ (sT ts).filter (fun x => beF told x.l), InS ts t.l := fun t h => mem_sT.mp (List.mem_filter.mp h).1
  have h2 : ∀ t ∈ (sT ts).filter p, InS ts t.l := fun t h => mem_sT.mp (List.mem_filter.mp h).1
  have p1 : ((sT ts).filter fun x => beF told x.l).Pairwise fun a b => cB B a < cB B b := (sT_pw hb).sublist List.filter_sublist
  have p2 : ((sT ts).filter p).Pairwise fun a b => cB B a < cB B b := (sT_pw hb).sublist List.filter_sublist
  refine pw_unique (c := cB B) (p1.sublist (great_sub _)) (p2.sublist (great_sub _)) fun x => ?_
  rw [(great_mem hB hb h1 p1).1 x, (great_mem hB hb h2 p2).1 x, List.mem_filter, List.mem_filter, mem_sT, hp, be_iff]
  have hl : ∀ {a b : Tup Int}, InS ts a.l → InS ts b.l → a.l.length = b.l.length := fun ha hb => ha.len.trans hb.len.symm
  constructor
  · rintro ⟨⟨q1, t, q2, q3⟩, q4⟩
    have hmem : ∀ u ∈ told, u ∈ (sT ts).filter fun x => beF told x.l := fun u hu => List.mem_filter.mpr ⟨mem_sT.mpr (ht u hu), be_iff.mpr ⟨u, hu, bel_refl _⟩⟩
    refine ⟨⟨q1, by rw [← q4 t (hmem t q2) q3]; exact q2⟩, fun z hz => q4 z (hmem z ((hp z).mp (List.mem_filter.mp hz).2))⟩
  · rintro ⟨⟨q1, q2⟩, q3⟩
    refine ⟨⟨q1, x, q2, bel_refl _⟩, fun z hz hle => ?_⟩
    obtain ⟨hzS, hzb⟩ := List.mem_filter.mp hz
    have hzS := mem_sT.mp hzS
    obtain ⟨t, ht1, ht2⟩ := be_iff.mp hzb
    have hxt := bel_trans (hl q1 hzS) (hl hzS (ht t ht1)) hle ht2
    have := q3 t (List.mem_filter.mpr ⟨mem_sT.mpr (ht t ht1), (hp t).mpr ht1⟩) hxt
    subst this
    have := bel_anti (hl hzS q1) ht2 hle
    cases z; cases t
    exact congrArg Tup.mk this
theorem least_members {told : List (Tup Int)} (ht : ∀ t ∈ told, InS ts t.l) {p : Tup Int → Bool} (hp : ∀ x, p x = true ↔ x ∈ told) : leastF ((sT ts).filter fun x => abF told x.l) = leastF ((sT ts).filter p) := by
  have h1 : ∀ t ∈ (sT ts).filter (fun x => abF told x.l), InS ts t.l := fun t h => mem_sT.mp (List.mem_filter.mp h).1
  have h2 : ∀ t ∈ (sT ts).filter p, InS ts t.l := fun t h => mem_sT.mp (List.mem_filter.mp h).1
  have p1 : ((sT ts).filter fun x => abF told x.l).Pairwise fun a b => cB B a < cB B b := (sT_pw hb).sublist List.filter_sublist
  have p2 : ((sT ts).filter p).Pairwise fun a b => cB B a < cB B b := (sT_pw hb).sublist List.filter_sublist
  refine pw_unique (c := cB B) (p1.sublist (least_sublist _)) (p2.sublist (least_sublist _)) fun x => ?_
  rw [(least_mem hB hb h1 p1).1 x, (least_mem hB hb h2 p2).1 x, List.mem_filter, List.mem_filter, mem_sT, hp, ab_iff]
  have hl : ∀ {a b : Tup Int}, InS ts a.l → InS ts b.l → a.l.length = b.l.length := fun ha hb => ha.len.trans hb.len.symm
  constructor
  · rintro ⟨⟨q1, t, q2, q3⟩, q4⟩
    have hmem : ∀ u ∈ told, u ∈ (sT ts).filter fun x => abF told x.l := fun u hu => List.mem_filter.mpr ⟨mem_sT.mpr (ht u hu), ab_iff.mpr ⟨u, hu, bel_refl _⟩⟩
    refine ⟨⟨q1, by rw [← q4 t (hmem t q2) q3]; exact q2⟩, fun z hz => q4 z (hmem z ((hp z).mp (List.mem_filter.mp hz).2))⟩
  · rintro ⟨⟨q1, q2⟩, q3⟩
    refine ⟨⟨q1, x, q2, bel_refl _⟩, fun z hz hle => ?_⟩
    obtain ⟨hzS, hzb⟩ := List.mem_filter.mp hz
    have hzS := mem_sT.mp hzS
    obtain ⟨t, ht1, ht2⟩ := ab_iff.mp hzb
    have hxt := bel_trans (hl (ht t ht1) hzS) (hl hzS q1) ht2 hle
    have := q3 t (List.mem_filter.mpr ⟨mem_sT.mpr (ht t ht1), (hp t).mpr ht1⟩) hxt
    subst this
    have := bel_anti (hl hzS q1) hle ht2
    cases z; cases t
    exact congrArg Tup.mk this
/-- the way back -/
theorem keep_back {told : List (Tup Int)} (ht : ∀ t ∈ told, InS ts t.l) {p : Tup Int → Bool} (hp : ∀ x, p x = true ↔ x ∈ told) : (keepF ts ((breakF ts told).map Tup.mk)).map Tup.mk = greatF ((sT ts).filter p) := by
  have hF : ∀ t ∈ (sT ts).filter (fun x => !beF told x.l), InS ts t.l := fun t h => mem_sT.mp (List.mem_filter.mp h).1
  have hFp : ((sT ts).filter fun x => !beF told x.l).Pairwise fun a b => cB B a < cB B b := (sT_pw hb).sublist List.filter_sublist
  have hG := least_mem hB hb hF hFp
  rw [break_eq hB hb ht]
  have hS : ∀ t ∈ leastF ((sT ts).filter fun x => !beF told x.l), InS ts t.l := fun t h => hF t ((hG.1 t).mp h).1
  rw [keep_eq hB hb hS, ← great_members hB hb ht hp]
  congr 1
  refine List.filter_congr fun x hx => ?_
  have hxS := mem_sT.mp hx
  cases q : beF told x.l with
  | true =>
    cases r : abF (leastF ((sT ts).filter fun x => !beF told x.l)) x.l with
    | false => rfl
    | true =>
      obtain ⟨e, he, hle⟩ := ab_iff.mp r
      have h1 := ((hG.1 e).mp he).1
      have := be_mono ht (hF e h1) hxS hle q
      have h2 := (List.mem_filter.mp h1).2
      rw [this] at h2
      cases h2
  | false =>
    obtain ⟨e, he, hle⟩ := hG.2 x (List.mem_filter.mpr ⟨hx, by rw [q]; rfl⟩)
    rw [ab_iff.mpr ⟨e, he, hle⟩]
    rfl
theorem break_back {told : List (Tup Int)} (ht : ∀ t ∈ told, InS ts t.l) {p : Tup Int → Bool} (hp : ∀ x, p x = true ↔ x ∈ told) : (breakF ts ((keepF ts told).map Tup.mk)).map Tup.mk = leastF ((sT ts).filter p) := by
  have hF : ∀ t ∈ (sT ts).filter (fun x => !abF told x.l), InS ts t.l := fun t h => mem_sT.mp (List.mem_filter.mp h).1
  have hFp : ((sT ts).filter fun x => !abF told x.l).Pairwise fun a b => cB B a < cB B b := (sT_pw hb).sublist List.filter_sublist
  have hG := great_mem hB hb hF hFp
  rw [keep_eq hB hb ht]
  have hS : ∀ t ∈ greatF ((sT ts).filter fun x => !abF told x.l), InS ts t.l := fun t h => hF t ((hG.1 t).mp h).1
  rw [break_eq hB hb hS, ← least_members hB hb ht hp]
  congr 1
  refine List.filter_congr fun x hx => ?_
  have hxS := mem_sT.mp hx
  cases q : abF told x.l with
  | true =>
    cases r : beF (greatF ((sT ts).filter fun x => !abF told x.l)) x.l with
    | false => rfl
    | true =>
      obtain ⟨e, he, hle⟩ := be_iff.mp r
      have h1 := ((hG.1 e).mp he).1
      have := ab_mono ht hxS (hF e h1) hle q
      have h2 := (List.mem_filter.mp h1).2
      rw [this] at h2
      cases h2
  | false =>
    obtain ⟨e, he, hle⟩ := hG.2 x (List.mem_filter.mpr ⟨hx, by rw [q]; rfl⟩)
    rw [be_iff.mpr ⟨e, he, hle⟩]
    rfl
end
end K14
namespace K14
open PySem PySem.Spec PyProof.Rows L2 Lw RZ
theorem nodup_len {α : Type} [BEq α] [LawfulBEq α] : ∀ {L M : List α}, L.Nodup → (∀ x ∈ L, x ∈ M) → L.length ≤ M.length
  | [], M, _, _ => Nat.zero_le _
  | a :: L, M, nd, h => by
    rw [List.nodup_cons] at nd
    have ha := h a List.mem_cons_self
    have := nodup_len (L := L) (M := M.erase a) nd.2 fun x hx => (List.mem_erase_of_ne (fun z : x = a => nd.1 (z ▸ hx))).mpr (h x (List.mem_cons_of_mem _ hx))
    rw [List.length_erase_of_mem ha] at this
    have := List.length_pos_of_mem ha
    rw [List.length_cons]
    omega
theorem prodF_cons (t : Int) (ts : List Int) : prodF (t :: ts) = (t + 1) * prodF ts := by
  have key : ∀ (ts : List Int) (m : Int), ts.foldl (fun m t => m * (t + 1)) m = m * prodF ts := by
    intro ts
    induction ts with
    | nil => intro m; show m = m * 1; rw [Int.mul_one]
    | cons u ts ih =>
      intro m
      rw [List.foldl_cons, ih, show prodF (u :: ts) = ts.foldl (fun m t => m * (t + 1)) (1 * (u + 1)) from rfl, ih, Int.one_mul, Int.mul_assoc]
  rw [show prodF (t :: ts) = ts.foldl (fun m t => m * (t + 1)) (1 * (t + 1)) from rfl, key, Int.one_mul]
theorem prod_erase : ∀ {ts : List Int} {k : Nat}, k < ts.length → prodF ts = (ts.getD k 0 + 1) * prodF (ts.eraseIdx k)
  | t :: ts, 0, _ => prodF_cons t ts
  | t :: ts, k + 1, h => by
    rw [List.eraseIdx_cons_succ, prodF_cons, prodF_cons, prod_erase (ts := ts) (k := k) (by simpa using h)]
    show (t + 1) * ((ts.getD k 0 + 1) * _) = (ts.getD k 0 + 1) * ((t + 1) * _)
    rw [Int.mul_left_comm]
theorem InS.erase {ts x : List Int} (h : InS ts x) (k : Nat) : InS (ts.eraseIdx k) (x.eraseIdx k) := by
  induction h generalizing k with
  | nil => exact .nil
  | cons r h ih =>
    cases k with
    | zero => exact h
    | succ k => exact .cons r (ih k)
theorem bel_erase : ∀ {x y : List Int} {k : Nat}, x.length = y.length → k < x.length → x.eraseIdx k = y.eraseIdx k → x.getD k 0 ≤ y.getD k 0 → belowB x y = true
  | a :: x, b :: y, 0, _, _, e, h => by
    have e' : x = y := e
    have h' : a ≤ b := h
    rw [below_cons, e', bel_refl, decide_eq_true h']; rfl
  | a :: x, b :: y, k + 1, hl, hk, e, h => by
    rw [List.eraseIdx_cons_succ, List.eraseIdx_cons_succ, List.cons.injEq] at e
    rw [below_cons, bel_erase (k := k) (by simpa using hl) (by simpa using hk) e.2 h, e.1]
    simp
theorem prod_two : ∀ {ts : List Int}, (∀ t ∈ ts, 0 ≤ t ∧ t ≤ 1) → prodF ts ≤ 2 ^ ts.length
  | [], _ => by decide
  | t :: ts, h => by
    rw [prodF_cons, List.length_cons, Int.pow_succ, Int.mul_comm (2 ^ ts.length) 2]
    have h1 := h t List.mem_cons_self
    have h2 := prod_two fun u hu => h u (List.mem_cons_of_mem t hu)
    have h3 := prod_pos ts fun u hu => (h u (List.mem_cons_of_mem t hu)).1
    exact Int.mul_le_mul (by omega) h2 (by omega) (by decide)
theorem TopsOk.t {ts : Tup Int} (h : TopsOk ts) : okT ts := ⟨h.1, Int.le_trans h.2.2 (by decide), Nat.le_trans h.2.1 (by decide)⟩
theorem anti_len {ts : Tup Int} (ok : TopsOk ts) {G : List (Tup Int)} (nd : G.Nodup) (hS : ∀ x ∈ G, InS ts.l x.l) (ha : ∀ x ∈ G, ∀ y ∈ G, belowB x.l y.l = true → x = y) : G.length < 64 := by
  by_cases h : ∃ k, k < ts.l.length ∧ 2 ≤ ts.l.getD k 0
  · obtain ⟨k, hk, h2⟩ := h
    have hp := prod_erase hk
    have h0 : ∀ t ∈ ts.l.eraseIdx k, 0 ≤ t := fun t ht => ok.1 t (List.mem_of_mem_eraseIdx ht)
    have h1 := prod_pos _ h0
    have h3 : 3 * prodF (ts.l.eraseIdx k) ≤ (ts.l.getD k 0 + 1) * prodF (ts.l.eraseIdx k) := Int.mul_le_mul_of_nonneg_right (by omega) (by omega)
    have h4 := ok.2.2
    have h5 := allS_len _ h0
    have h6 : (G.map fun x => x.l.eraseIdx k).length ≤ (allS (ts.l.eraseIdx k)).length := by
      refine nodup_len ?_ fun x hx => ?_
      · refine List.pairwise_map.mpr (nd.imp_of_mem fun {x y} hx hy hne e => hne ?_)
        have hl : x.l.length = y.l.length := (hS x hx).len.trans (hS y hy).len.symm
        have hkx : k < x.l.length := by rw [(hS x hx).len]; exact hk
        rcases Int.le_total (x.l.getD k 0) (y.l.getD k 0) with q | q
        · exact ha x hx y hy (bel_erase hl hkx e q)
        · exact (ha y hy x hx (bel_erase hl.symm (by omega) e.symm q)).symm
      · obtain ⟨y, hy, rfl⟩ := List.mem_map.mp hx
        exact mem_allS.mpr ((hS y hy).erase k)
    rw [List.length_map] at h6
    omega
  · have hall : ∀ t ∈ ts.l, 0 ≤ t ∧ t ≤ 1 := fun t ht => by
      obtain ⟨k, hk, rfl⟩ := List.mem_iff_getElem.mp ht
      refine ⟨ok.1 _ ht, ?_⟩
      apply Classical.byContradiction
      intro hn
      refine h ⟨k, hk, ?_⟩
      rw [List.getD_eq_getElem?_getD, List.getElem?_eq_getElem hk]
      show 2 ≤ ts.l[k]
      omega
    have h1 := prod_two hall
    have h2 := ok.2.1
    have h3 : (2 : Int) ^ ts.l.length ≤ 2 ^ 4 := by
      have : ts.l.length = 0 ∨ ts.l.length = 1 ∨ ts.l.length = 2 ∨ ts.l.length = 3 ∨ ts.l.length = 4 := by omega
      rcases this with e | e | e | e | e <;> rw [e] <;> decide
    have h4 := allS_len ts.l ok.1
    have h5 : (G.map fun x => x.l).length ≤ (allS ts.l).length := by
      refine nodup_len ?_ fun x hx => ?_
      · refine List.pairwise_map.mpr (nd.imp_of_mem fun {x y} hx hy hne e => hne ?_)
        cases x; cases y
        exact congrArg Tup.mk e
      · obtain ⟨y, hy, rfl⟩ := List.mem_map.mp hx
        exact mem_allS.mpr (hS y hy)
    rw [List.length_map] at h5
    have h6 : (2 : Int) ^ 4 = 16 := by decide
    omega
section
variable {ts : Tup Int} {B : Int} (ok : TopsOk ts) (hB : 1 ≤ B) (hb : ∀ t ∈ ts.l, t < B)
include ok hB hb
theorem great_len {p : Tup Int → Bool} : (greatF ((sT ts.l).filter p)).length < 64 := by
  have hF : ∀ t ∈ (sT ts.l).filter p, InS ts.l t.l := fun t h => mem_sT.mp (List.mem_filter.mp h).1
  have hFp : ((sT ts.l).filter p).Pairwise fun a b => cB B a < cB B b := (sT_pw hb).sublist List.filter_sublist
  have hG := great_mem hB hb hF hFp
  refine anti_len ok ((hFp.sublist (great_sub _)).imp fun {a b} h e => by rw [e] at h; omega) (fun x hx => hF x ((hG.1 x).mp hx).1) fun x hx y hy hle => ?_
  exact (((hG.1 x).mp hx).2 y ((hG.1 y).mp hy).1 hle).symm
end
/-- the first setting without both -/
theorem unc_eq {ts : List Int} {B : Int} (hB : 1 ≤ B) (hb : ∀ t ∈ ts, t < B) {br kp : List (Tup Int)} (h1 : ∀ t ∈ br, InS ts t.l) (h2 : ∀ t ∈ kp, InS ts t.l) : (uncF ts br kp).map Tup.mk = (sT ts).find? fun x => !abF br x.l && !beF kp x.l := by
  unfold uncF sT
  rw [List.find?_map]
  congr 1
  have key : ∀ L : List (List Int), (∀ x ∈ L, InS ts x) → L.find? (fun x => !(upF ts br x) && !(downF ts kp x)) = L.find? ((fun x : Tup Int => !abF br x.l && !beF kp x.l) ∘ Tup.mk) := by
    intro L
    induction L with
    | nil => intro _; rfl
    | cons a L ih =>
      intro h
      have ha := h a List.mem_cons_self
      rw [List.find?_cons, List.find?_cons, up_ab hB hb h1 a ha, down_be hB hb h2 a ha, ih fun x hx => h x (List.mem_cons_of_mem _ hx)]
      rfl
  exact key _ fun x hx => mem_allS.mp hx
end K14
namespace K14
open PySem PySem.Spec PyProof.Rows L2 Lw RZ
variable {P : Program} {w : World} {K : PySem.W.Frag} {mg : Str → Option Value} {base : Heap}
theorem getD_mem {α : Type} {xs : List α} {i : Nat} {d : α} (h : i < xs.length) : xs.getD i d ∈ xs := by
  rw [List.getD_eq_getElem?_getD, List.getElem?_eq_getElem h]
  exact List.getElem_mem h
def a_same (K : PySem.W.Frag) {α : Type} [Py K α] (Ok : α → Prop) : List (Slot K) → (Bool → Prop) → Prop := fun xs P => ∃ x : α, xs = [sv x, sv x] ∧ Ok x ∧ P true
theorem sc_law_same : FnScope ["told", "due", "k"] ["told", "due"] (defScope (topS 22)) := ⟨rfl, rfl, rfl, by decide +kernel, rfl, by decide +kernel, by decide +kernel⟩
theorem same_dead (E : FX K mg) : Cal P w K mg base "_law_same" 0 ["told", "due"] (fun _ _ _ _ => False) := by
  refine E.cal 16 18 (st := topS 22) rfl rfl (fun _ _ _ _ _ _ us hl => match us, hl with | [_, _], _ => rfl) fun f fd F => ⟨fun _ _ _ _ h => h.elim, fun A outer s H args us vs Q E hr he hb hv h => h.elim⟩
theorem ok_same_int (E : FX K mg) : Cal P w K mg base "_law_same" 1 ["told", "due"] (SpR K (a_same K fun _ : Int => True)) := by
  refine E.cal 16 18 (st := topS 22) rfl rfl (fun _ _ _ _ _ _ us hl => match us, hl with | [_, _], _ => rfl) fun f fd F => okRD F sc_law_same (fun xs P' h => ?_) (fun cdv Ar outer s0 H0 E0 hr xs P' h => ?_)
  · obtain ⟨_, rfl, _⟩ := h; rfl
  · obtain ⟨x, rfl, ok, hP⟩ := h
    refine ⟨_, (pss_cons (ps_if (pt_val (pe_callB (isiK K) (by rfl) (E.free 41) (by decide +kernel) (pa_cons (pv 1) (pa_cons (pe_bltn (v := .ty "tuple") (u := .type "tuple") (by rfl) (E.free 40) (by decide +kernel) rfl) pa_nil)))) (pss_cons (ps_if (PW.pt (pw_or (pt_not (pt_val (pe_callB (isiK K) (by rfl) (E.free 41) (by decide +kernel) (pa_cons (pv 0) (pa_cons (pe_bltn (v := .ty "tuple") (u := .type "tuple") (by rfl) (E.free 40) (by decide +kernel) rfl) pa_nil))))) (pw_or1 (pt_cmpR op_ne (pe_callB (len_seqK K) (by rfl) (E.free 46) (by decide +kernel) (pa_cons (pv 0) pa_nil)) (pe_callB (len_seqK K) (by rfl) (E.free 46) (by decide +kernel) (pa_cons (pv 1) pa_nil)) (nomark _))))) (pss_one (ps_ret pe_bl)) pss_nil)
    (pss_cons (ps_for PassesOwn.never rfl (pi_range1 rfl (E.free 43) (pa_cons (pe_callB (len_seqK K) (by rfl) (E.free 46) (by decide +kernel) (pa_cons (pv 1) pa_nil)) pa_nil)) (pg_name (i := 2) sc_law_same.nd rfl (.inl rfl))
      (pss_one (ps_if (pt_not (pt_val (pe_c (same_dead E) (hr.mono (by decide)) rfl (pa_cons (pe_ix (ix_tupK K) (pv 0) (pv 2) (fun _ _ => rfl)) (pa_cons (pe_ix (ix_tupK K) (pv 1) (pv 2) (fun _ _ => rfl)) pa_nil))))) (pss_one (ps_ret pe_bl)) pss_nil)))
    (pss_one (ps_ret pe_bl)))) pss_nil)
    (pss_cons (ps_if (pt_val (pe_callB (isiK K) (by rfl) (E.free 41) (by decide +kernel) (pa_cons (pv 1) (pa_cons (pe_bltn (v := .ty "str") (u := .type "str") (by rfl) (E.free 42) (by decide +kernel) rfl) pa_nil)))) (pss_one (ps_ret (pe_and (pe_callB (isiK K) (by rfl) (E.free 41) (by decide +kernel) (pa_cons (pv 0) (pa_cons (pe_bltn (v := .ty "str") (u := .type "str") (by rfl) (E.free 42) (by decide +kernel) rfl) pa_nil))) (pe_one (pe_cmpR (eqDK K hr.units) (pv 0) (pv 1) (nomark _)))))) pss_nil)
    (pss_one (ps_ret (pe_and (pe_callB (isiK K) (by rfl) (E.free 41) (by decide +kernel) (pa_cons (pv 0) (pa_cons (pe_bltn (v := .ty "int") (u := .type "int") (by rfl) (E.free 48) (by decide +kernel) rfl) pa_nil))) (pe_and (pe_not (pe_callB (isiK K) (by rfl) (E.free 41) (by decide +kernel) (pa_cons (pv 0) (pa_cons (pe_bltn (v := .ty "bool") (u := .type "bool") (by rfl) (E.free 52) (by decide +kernel) rfl) pa_nil)))) (pe_one (pe_cmpR (eqDK K hr.units) (pv 0) (pv 1) (nomark _))))))))), fun g σ Q s fin => ?_⟩
    -- if isinstance(due, tuple):
    refine st_if s (et_B (ev_isi (c := false) (x := x) (ev_var rfl))) (fun hc g h s => by cases hc) (fun _ g h s => ?_)
    dsimp only [tNext]
    -- if isinstance(due, str):
    refine st_if s (et_B (ev_isi (c := false) (x := x) (ev_var rfl))) (fun hc g h s => by cases hc) (fun _ g h s => ?_)
    dsimp only [tNext]
    -- return isinstance(told, int) and (not isinstance(told, bool)) and (told == due)
    refine st_ret s (ev_andV (ev_isi (c := true) (x := x) (ev_var rfl)) fun _ => (ev_andV (ev_notV (ev_isi (c := false) (x := x) (ev_var rfl))) fun _ => (ev_eqD (ev_var rfl) (ev_var rfl) decide_eq_true_iff))) ?_
    refine fun v g h s r => fin v true g h _ _ _ hP s ?_
    simpa using r
theorem ok_same_str (E : FX K mg) : Cal P w K mg base "_law_same" 1 ["told", "due"] (SpR K (a_same K fun x : Str => x.cps.all (· < 0x110000) = true)) := by
  refine E.cal 16 18 (st := topS 22) rfl rfl (fun _ _ _ _ _ _ us hl => match us, hl with | [_, _], _ => rfl) fun f fd F => okRD F sc_law_same (fun xs P' h => ?_) (fun cdv Ar outer s0 H0 E0 hr xs P' h => ?_)
  · obtain ⟨_, rfl, _⟩ := h; rfl
  · obtain ⟨x, rfl, ok, hP⟩ := h
    refine ⟨_, (pss_cons (ps_if (pt_val (pe_callB (isiK K) (by rfl) (E.free 41) (by decide +kernel) (pa_cons (pv 1) (pa_cons (pe_bltn (v := .ty "tuple") (u := .type "tuple") (by rfl) (E.free 40) (by decide +kernel) rfl) pa_nil)))) (pss_cons (ps_if (PW.pt (pw_or (pt_not (pt_val (pe_callB (isiK K) (by rfl) (E.free 41) (by decide +kernel) (pa_cons (pv 0) (pa_cons (pe_bltn (v := .ty "tuple") (u := .type "tuple") (by rfl) (E.free 40) (by decide +kernel) rfl) pa_nil))))) (pw_or1 (pt_cmpR op_ne (pe_callB (len_seqK K) (by rfl) (E.free 46) (by decide +kernel) (pa_cons (pv 0) pa_nil)) (pe_callB (len_seqK K) (by rfl) (E.free 46) (by decide +kernel) (pa_cons (pv 1) pa_nil)) (nomark _))))) (pss_one (ps_ret pe_bl)) pss_nil)
    (pss_cons (ps_for PassesOwn.never rfl (pi_range1 rfl (E.free 43) (pa_cons (pe_callB (len_seqK K) (by rfl) (E.free 46) (by decide +kernel) (pa_cons (pv 1) pa_nil)) pa_nil)) (pg_name (i := 2) sc_law_same.nd rfl (.inl rfl))
      (pss_one (ps_if (pt_not (pt_val (pe_c (same_dead E) (hr.mono (by decide)) rfl (pa_cons (pe_ix (ix_tupK K) (pv 0) (pv 2) (fun _ _ => rfl)) (pa_cons (pe_ix (ix_tupK K) (pv 1) (pv 2) (fun _ _ => rfl)) pa_nil))))) (pss_one (ps_ret pe_bl)) pss_nil)))
    (pss_one (ps_ret pe_bl)))) pss_nil)
    (pss_cons (ps_if (pt_val (pe_callB (isiK K) (by rfl) (E.free 41) (by decide +kernel) (pa_cons (pv 1) (pa_cons (pe_bltn (v := .ty "str") (u := .type "str") (by rfl) (E.free 42) (by decide +kernel) rfl) pa_nil)))) (pss_one (ps_ret (pe_and (pe_callB (isiK K) (by rfl) (E.free 41) (by decide +kernel) (pa_cons (pv 0) (pa_cons (pe_bltn (v := .ty "str") (u := .type "str") (by rfl) (E.free 42) (by decide +kernel) rfl) pa_nil))) (pe_one (pe_cmpR (eqDK K hr.units) (pv 0) (pv 1) (nomark _)))))) pss_nil)
    (pss_one (ps_ret (pe_and (pe_callB (isiK K) (by rfl) (E.free 41) (by decide +kernel) (pa_cons (pv 0) (pa_cons (pe_bltn (v := .ty "int") (u := .type "int") (by rfl) (E.free 48) (by decide +kernel) rfl) pa_nil))) (pe_and (pe_not (pe_callB (isiK K) (by rfl) (E.free 41) (by decide +kernel) (pa_cons (pv 0) (pa_cons (pe_bltn (v := .ty "bool") (u := .type "bool") (by rfl) (E.free 52) (by decide +kernel) rfl) pa_nil)))) (pe_one (pe_cmpR (eqDK K hr.units) (pv 0) (pv 1) (nomark _))))))))), fun g σ Q s fin => ?_⟩
    -- if isinstance(due, tuple):
    refine st_if s (et_B (ev_isi (c := false) (x := x) (ev_var rfl))) (fun hc g h s => by cases hc) (fun _ g h s => ?_)
    dsimp only [tNext]
    -- if isinstance(due, str):
    refine st_if s (et_B (ev_isi (c := true) (x := x) (ev_var rfl))) (fun _ g h s => ?_) (fun hc g h s => by cases hc)
    -- return isinstance(told, str) and told == due
    refine st_ret s (ev_andV (ev_isi (c := true) (x := x) (ev_var rfl)) fun _ => (ev_eqD (ev_var rfl) (ev_var rfl) decide_eq_true_iff (ox := ok) (oy := ok))) ?_
    refine fun v g h s r => fin v true g h _ _ _ hP s ?_
    simpa using r
theorem ok_same_ti (E : FX K mg) : Cal P w K mg base "_law_same" 2 ["told", "due"] (SpR K (a_same K fun x : Tup Int => x.l.length ≤ 5000 ∧ True)) := by
  refine E.cal 16 18 (st := topS 22) rfl rfl (fun _ _ _ _ _ _ us hl => match us, hl with | [_, _], _ => rfl) fun f fd F => okRD F sc_law_same (fun xs P' h => ?_) (fun cdv Ar outer s0 H0 E0 hr xs P' h => ?_)
  · obtain ⟨_, rfl, _⟩ := h; rfl
  · obtain ⟨x, rfl, ok, hP⟩ := h
    refine ⟨_, (pss_cons (ps_if (pt_val (pe_callB (isiK K) (by rfl) (E.free 41) (by decide +kernel) (pa_cons (pv 1) (pa_cons (pe_bltn (v := .ty "tuple") (u := .type "tuple") (by rfl) (E.free 40) (by decide +kernel) rfl) pa_nil)))) (pss_cons (ps_if (PW.pt (pw_or (pt_not (pt_val (pe_callB (isiK K) (by rfl) (E.free 41) (by decide +kernel) (pa_cons (pv 0) (pa_cons (pe_bltn (v := .ty "tuple") (u := .type "tuple") (by rfl) (E.free 40) (by decide +kernel) rfl) pa_nil))))) (pw_or1 (pt_cmpR op_ne (pe_callB (len_seqK K) (by rfl) (E.free 46) (by decide +kernel) (pa_cons (pv 0) pa_nil)) (pe_callB (len_seqK K) (by rfl) (E.free 46) (by decide +kernel) (pa_cons (pv 1) pa_nil)) (nomark _))))) (pss_one (ps_ret pe_bl)) pss_nil)
    (pss_cons (ps_for PassesOwn.never rfl (pi_range1 rfl (E.free 43) (pa_cons (pe_callB (len_seqK K) (by rfl) (E.free 46) (by decide +kernel) (pa_cons (pv 1) pa_nil)) pa_nil)) (pg_name (i := 2) sc_law_same.nd rfl (.inl rfl))
      (pss_one (ps_if (pt_not (pt_val (pe_c (ok_same_int E) (hr.mono (by decide)) rfl (pa_cons (pe_ix (ix_tupK K) (pv 0) (pv 2) (fun _ _ => rfl)) (pa_cons (pe_ix (ix_tupK K) (pv 1) (pv 2) (fun _ _ => rfl)) pa_nil))))) (pss_one (ps_ret pe_bl)) pss_nil)))
    (pss_one (ps_ret pe_bl)))) pss_nil)
    (pss_cons (ps_if (pt_val (pe_callB (isiK K) (by rfl) (E.free 41) (by decide +kernel) (pa_cons (pv 1) (pa_cons (pe_bltn (v := .ty "str") (u := .type "str") (by rfl) (E.free 42) (by decide +kernel) rfl) pa_nil)))) (pss_one (ps_ret (pe_and (pe_callB (isiK K) (by rfl) (E.free 41) (by decide +kernel) (pa_cons (pv 0) (pa_cons (pe_bltn (v := .ty "str") (u := .type "str") (by rfl) (E.free 42) (by decide +kernel) rfl) pa_nil))) (pe_one (pe_cmpR (eqDK K hr.units) (pv 0) (pv 1) (nomark _)))))) pss_nil)
    (pss_one (ps_ret (pe_and (pe_callB (isiK K) (by rfl) (E.free 41) (by decide +kernel) (pa_cons (pv 0) (pa_cons (pe_bltn (v := .ty "int") (u := .type "int") (by rfl) (E.free 48) (by decide +kernel) rfl) pa_nil))) (pe_and (pe_not (pe_callB (isiK K) (by rfl) (E.free 41) (by decide +kernel) (pa_cons (pv 0) (pa_cons (pe_bltn (v := .ty "bool") (u := .type "bool") (by rfl) (E.free 52) (by decide +kernel) rfl) pa_nil)))) (pe_one (pe_cmpR (eqDK K hr.units) (pv 0) (pv 1) (nomark _))))))))), fun g σ Q s fin => ?_⟩
    -- if isinstance(due, tuple):
    refine st_if s (et_B (ev_isi (c := true) (x := x) (ev_var rfl))) (fun _ g h s => ?_) (fun hc g h s => by cases hc)
    -- if not isinstance(told, tuple) or len(told) != len(due):
    refine st_if s (et_or (et_not (et_B (ev_isi (c := true) (x := x) (ev_var rfl)))) fun _ => (et_test (ev_neI (ev_lenT (ev_var rfl)) (ev_lenT (ev_var rfl))))) (fun hc g h s => ?_) (fun hc g h s => ?_)
    · simp at hc
    · dsimp only [tNext]
      have hx := ok.1
      -- for k in range(len(due)):
      refine st_for_range s (ev_lenT (ev_var rfl)) (by omega) (by omega) (fun n e o => ∃ s2 : Slot K, e = [sv x, sv x, s2]) ⟨_, rfl⟩ (fun n hn c hls e o g h σ N hI back s hN => ?_) (fun e o g h σ hI s => ?_)
      · obtain ⟨s2, rfl⟩ := hI
        -- if not _law_same(told[k], due[k]):
        refine st_if s (et_not (et_B (ev_call (ea_cons (ev_ixTD (0 : Int) (ev_var rfl) (ev_var rfl) (by omega) (by omega)) (ea_cons (ev_ixTD (0 : Int) (ev_var rfl) (ev_var rfl) (by omega) (by omega)) ea_nil)) ⟨_, rfl, trivial, rfl⟩))) (fun hc g h s => ?_) (fun hc g h s => ?_)
        · cases hc
        · exact hN _ _ _ _ _ ⟨_, rfl⟩ s
      · obtain ⟨s2, rfl⟩ := hI
        dsimp only
        -- return True
        refine st_ret s ev_bl ?_
        exact fun v g h s r => fin v true g h _ _ _ hP s r
theorem ok_same_tt (E : FX K mg) : Cal P w K mg base "_law_same" 3 ["told", "due"] (SpR K (a_same K fun x : Tup (Tup Int) => x.l.length ≤ 5000 ∧ ∀ t ∈ x.l, t.l.length ≤ 5000)) := by
  refine E.cal 16 18 (st := topS 22) rfl rfl (fun _ _ _ _ _ _ us hl => match us, hl with | [_, _], _ => rfl) fun f fd F => okRD F sc_law_same (fun xs P' h => ?_) (fun cdv Ar outer s0 H0 E0 hr xs P' h => ?_)
  · obtain ⟨_, rfl, _⟩ := h; rfl
  · obtain ⟨x, rfl, ok, hP⟩ := h
    refine ⟨_, (pss_cons (ps_if (pt_val (pe_callB (isiK K) (by rfl) (E.free 41) (by decide +kernel) (pa_cons (pv 1) (pa_cons (pe_bltn (v := .ty "tuple") (u := .type "tuple") (by rfl) (E.free 40) (by decide +kernel) rfl) pa_nil)))) (pss_cons (ps_if (PW.pt (pw_or (pt_not (pt_val (pe_callB (isiK K) (by rfl) (E.free 41) (by decide +kernel) (pa_cons (pv 0) (pa_cons (pe_bltn (v := .ty "tuple") (u := .type "tuple") (by rfl) (E.free 40) (by decide +kernel) rfl) pa_nil))))) (pw_or1 (pt_cmpR op_ne (pe_callB (len_seqK K) (by rfl) (E.free 46) (by decide +kernel) (pa_cons (pv 0) pa_nil)) (pe_callB (len_seqK K) (by rfl) (E.free 46) (by decide +kernel) (pa_cons (pv 1) pa_nil)) (nomark _))))) (pss_one (ps_ret pe_bl)) pss_nil)
    (pss_cons (ps_for PassesOwn.never rfl (pi_range1 rfl (E.free 43) (pa_cons (pe_callB (len_seqK K) (by rfl) (E.free 46) (by decide +kernel) (pa_cons (pv 1) pa_nil)) pa_nil)) (pg_name (i := 2) sc_law_same.nd rfl (.inl rfl))
      (pss_one (ps_if (pt_not (pt_val (pe_c (ok_same_ti E) (hr.mono (by decide)) rfl (pa_cons (pe_ix (ix_tupK K) (pv 0) (pv 2) (fun _ _ => rfl)) (pa_cons (pe_ix (ix_tupK K) (pv 1) (pv 2) (fun _ _ => rfl)) pa_nil))))) (pss_one (ps_ret pe_bl)) pss_nil)))
    (pss_one (ps_ret pe_bl)))) pss_nil)
    (pss_cons (ps_if (pt_val (pe_callB (isiK K) (by rfl) (E.free 41) (by decide +kernel) (pa_cons (pv 1) (pa_cons (pe_bltn (v := .ty "str") (u := .type "str") (by rfl) (E.free 42) (by decide +kernel) rfl) pa_nil)))) (pss_one (ps_ret (pe_and (pe_callB (isiK K) (by rfl) (E.free 41) (by decide +kernel) (pa_cons (pv 0) (pa_cons (pe_bltn (v := .ty "str") (u := .type "str") (by rfl) (E.free 42) (by decide +kernel) rfl) pa_nil))) (pe_one (pe_cmpR (eqDK K hr.units) (pv 0) (pv 1) (nomark _)))))) pss_nil)
    (pss_one (ps_ret (pe_and (pe_callB (isiK K) (by rfl) (E.free 41) (by decide +kernel) (pa_cons (pv 0) (pa_cons (pe_bltn (v := .ty "int") (u := .type "int") (by rfl) (E.free 48) (by decide +kernel) rfl) pa_nil))) (pe_and (pe_not (pe_callB (isiK K) (by rfl) (E.free 41) (by decide +kernel) (pa_cons (pv 0) (pa_cons (pe_bltn (v := .ty "bool") (u := .type "bool") (by rfl) (E.free 52) (by decide +kernel) rfl) pa_nil)))) (pe_one (pe_cmpR (eqDK K hr.units) (pv 0) (pv 1) (nomark _))))))))), fun g σ Q s fin => ?_⟩
    -- if isinstance(due, tuple):
    refine st_if s (et_B (ev_isi (c := true) (x := x) (ev_var rfl))) (fun _ g h s => ?_) (fun hc g h s => by cases hc)
    -- if not isinstance(told, tuple) or len(told) != len(due):
    refine st_if s (et_or (et_not (et_B (ev_isi (c := true) (x := x) (ev_var rfl)))) fun _ => (et_test (ev_neI (ev_lenT (ev_var rfl)) (ev_lenT (ev_var rfl))))) (fun hc g h s => ?_) (fun hc g h s => ?_)
    · simp at hc
    · dsimp only [tNext]
      have hx := ok.1
      -- for k in range(len(due)):
      refine st_for_range s (ev_lenT (ev_var rfl)) (by omega) (by omega) (fun n e o => ∃ s2 : Slot K, e = [sv x, sv x, s2]) ⟨_, rfl⟩ (fun n hn c hls e o g h σ N hI back s hN => ?_) (fun e o g h σ hI s => ?_)
      · obtain ⟨s2, rfl⟩ := hI
        -- if not _law_same(told[k], due[k]):
        refine st_if s (et_not (et_B (ev_call (ea_cons (ev_ixTD (⟨[]⟩ : Tup Int) (ev_var rfl) (ev_var rfl) (by omega) (by omega)) (ea_cons (ev_ixTD (⟨[]⟩ : Tup Int) (ev_var rfl) (ev_var rfl) (by omega) (by omega)) ea_nil)) ⟨_, rfl, ⟨ok.2 _ (getD_mem (by omega)), trivial⟩, rfl⟩))) (fun hc g h s => ?_) (fun hc g h s => ?_)
        · cases hc
        · exact hN _ _ _ _ _ ⟨_, rfl⟩ s
      · obtain ⟨s2, rfl⟩ := hI
        dsimp only
        -- return True
        refine st_ret s ev_bl ?_
        exact fun v g h s r => fin v true g h _ _ _ hP s r
end K14
namespace K14
open PySem PySem.Spec PyProof.Rows L2 Lw RZ
variable {P : Program} {w : World} {K : PySem.W.Frag} {mg : Str → Option Value} {base : Heap}
theorem hu65 {k : Nat} {A : Around} (r : Room k A) : A.units + 65 < cLine := by have := r.un; omega
def a_closing (K : PySem.W.Frag) : List (Slot K) → (Bool → Prop) → (Addr → List (Str × Slot K) → Prop) → Prop := fun xs P PE => ∃ (ts : Tup Int) (told : List (Tup Int)), xs = [sv ts, sv (sT ts.l), sv told] ∧ (TopsOk ts ∧ ToldOk ts.l told) ∧ P true
noncomputable def inT (told : List (Tup Int)) (x : Tup Int) : Bool := @decide (x ∈ told) (Classical.propDecidable _)
theorem inT_iff {told : List (Tup Int)} {x : Tup Int} : inT told x = true ↔ x ∈ told := by unfold inT; exact @decide_eq_true_iff _ (Classical.propDecidable _)
theorem sc_law_closing : FnScope ["tops", "settings", "told", "free", "levels", "left", "members", "passed", "keepers", "breakers"] ["tops", "settings", "told"] (defScope (topS 32)) := ⟨rfl, rfl, rfl, by decide +kernel, rfl, by decide +kernel, by decide +kernel⟩
theorem ok_law_closing (E : FX K mg) (hPr : P = PySem.Challenge.pw_planyard_k14_closing_whole) : CalE P w K mg base "_law_closing" 5 ["tops", "settings", "told"] (SpE K (a_closing K)) := by
  refine E.f.calE 26 28 (st := topS 32) rfl rfl (fun _ _ _ _ _ _ us hl => match us, hl with | [_, _, _], _ => rfl) fun f fd F => okED F sc_law_closing (fun xs P' PE h => ?_) (fun cdv Ar outer s0 H0 E0 hr xs P' PE h => ?_)
  · obtain ⟨_, _, rfl, _⟩ := h; rfl
  · obtain ⟨ts, told, rfl, ⟨ok, htold⟩, hP⟩ := h
    refine ⟨_, (pss_cons (ps_setLc (i := 3) (own := [("levels", 4)]) (g := gName 4) rfl sc_law_closing.nd rfl rfl (sw_true rfl rfl rfl (by decide +kernel)) (pi_listK K (pv 1)) (blkOk_by (N := ["tops", "settings", "told", "free", "levels", "left", "members", "passed", "keepers", "breakers"]) (sc := defScope (topS 32)) (own := [("levels", 4)]) (by decide +kernel)) (fun _ _ _ _ _ => (pg_name (i := 4) sc_law_closing.nd rfl (Or.inl rfl))) (fun _ _ _ _ _ => (pts_one (pt_not (pt_val (pe_c (ok_law_above_one E) (hr.mono (by decide)) rfl (pa_cons (pv 2) (pa_cons (pv 4) pa_nil))))))) (fun _ _ _ _ _ => (pv 4)))
    (pss_cons (ps_setLc (i := 5) (own := [("levels", 4)]) (g := gName 4) rfl sc_law_closing.nd rfl rfl (sw_true rfl rfl rfl (by decide +kernel)) (pi_listK K (pv 1)) (blkOk_by (N := ["tops", "settings", "told", "free", "levels", "left", "members", "passed", "keepers", "breakers"]) (sc := defScope (topS 32)) (own := [("levels", 4)]) (by decide +kernel)) (fun _ _ _ _ _ => (pg_name (i := 4) sc_law_closing.nd rfl (Or.inl rfl))) (fun _ _ _ _ _ => (pts_one (pt_not (pt_val (pe_c (ok_law_below_one E) (hr.mono (by decide)) rfl (pa_cons (pv 2) (pa_cons (pv 4) pa_nil))))))) (fun _ _ _ _ _ => (pv 4)))
    (pss_cons (ps_setLc (i := 6) (own := [("levels", 4)]) (g := gName 4) rfl sc_law_closing.nd rfl rfl (sw_true rfl rfl rfl (by decide +kernel)) (pi_listK K (pv 1)) (blkOk_by (N := ["tops", "settings", "told", "free", "levels", "left", "members", "passed", "keepers", "breakers"]) (sc := defScope (topS 32)) (own := [("levels", 4)]) (by decide +kernel)) (fun _ _ _ _ _ => (pg_name (i := 4) sc_law_closing.nd rfl (Or.inl rfl))) (fun _ _ _ _ _ => (pts_one (pt_cmpR (inDK (K := K) (Nat.lt_of_le_of_lt (Nat.le_refl _) (hu65 hr))) (pv 4) (pv 2) (by rfl)))) (fun _ _ _ _ _ => (pv 4)))
    (pss_cons (ps_set (i := 7) sc_law_closing.nd rfl (.inl rfl) (pe_callTy (list_ofK K) (by rfl) (E.free 45) (by decide +kernel) (pa_cons (pv 2) pa_nil)))
    (pss_cons (ps_set (i := 8) sc_law_closing.nd rfl (.inl rfl) (pe_cE (ok_keepers_of E hPr) (hr.mono (by decide)) (L2N.takes_of rfl rfl rfl rfl) (fun _ _ _ _ z => z) rfl (pa_cons (pv 0) (pa_cons (pv 7) pa_nil))))
    (pss_cons (ps_if (PW.pt (pw_or (pt_cmpR (neDK K hr.units) (pv 7) (pv 2) (nomark _)) (pw_or1 (pt_not (pt_val (pe_c (ok_same_tt E) (hr.mono (by decide)) rfl (pa_cons (pv 8) (pa_cons (pe_callTy (tuple_ofK K) (by rfl) (E.free 40) (by decide +kernel) (pa_cons (pe_c (ok_law_greatest E) (hr.mono (by decide)) rfl (pa_cons (pv 3) pa_nil)) pa_nil)) pa_nil)))))))) (pss_one (ps_ret pe_bl)) pss_nil)
    (pss_cons (ps_set (i := 9) sc_law_closing.nd rfl (.inl rfl) (pe_cE (ok_breakers_of E hPr) (hr.mono (by decide)) (L2N.takes_of rfl rfl rfl rfl) (fun _ _ _ _ z => z) rfl (pa_cons (pv 0) (pa_cons (pv 7) pa_nil))))
    (pss_cons (ps_if (PW.pt (pw_or (pt_cmpR (neDK K hr.units) (pv 7) (pv 2) (nomark _)) (pw_or1 (pt_not (pt_val (pe_c (ok_same_tt E) (hr.mono (by decide)) rfl (pa_cons (pv 9) (pa_cons (pe_callTy (tuple_ofK K) (by rfl) (E.free 40) (by decide +kernel) (pa_cons (pe_c (ok_law_least E) (hr.mono (by decide)) rfl (pa_cons (pv 5) pa_nil)) pa_nil)) pa_nil)))))))) (pss_one (ps_ret pe_bl)) pss_nil)
    (pss_cons (ps_if (pt_not (pt_val (pe_c (ok_same_tt E) (hr.mono (by decide)) rfl (pa_cons (pe_cE (ok_keepers_of E hPr) (hr.mono (by decide)) (L2N.takes_of rfl rfl rfl rfl) (fun _ _ _ _ z => z) rfl (pa_cons (pv 0) (pa_cons (pe_callTy (tuple_ofK K) (by rfl) (E.free 40) (by decide +kernel) (pa_cons (pv 2) pa_nil)) pa_nil))) (pa_cons (pe_callTy (tuple_ofK K) (by rfl) (E.free 40) (by decide +kernel) (pa_cons (pe_c (ok_law_greatest E) (hr.mono (by decide)) rfl (pa_cons (pv 3) pa_nil)) pa_nil)) pa_nil))))) (pss_one (ps_ret pe_bl)) pss_nil)
    (pss_cons (ps_if (pt_not (pt_val (pe_c (ok_same_tt E) (hr.mono (by decide)) rfl (pa_cons (pe_cE (ok_breakers_of E hPr) (hr.mono (by decide)) (L2N.takes_of rfl rfl rfl rfl) (fun _ _ _ _ z => z) rfl (pa_cons (pv 0) (pa_cons (pe_callTy (tuple_ofK K) (by rfl) (E.free 40) (by decide +kernel) (pa_cons (pv 2) pa_nil)) pa_nil))) (pa_cons (pe_callTy (tuple_ofK K) (by rfl) (E.free 40) (by decide +kernel) (pa_cons (pe_c (ok_law_least E) (hr.mono (by decide)) rfl (pa_cons (pv 5) pa_nil)) pa_nil)) pa_nil))))) (pss_one (ps_ret pe_bl)) pss_nil)
    (pss_cons (ps_if (pt_not (pt_val (pe_c (ok_same_tt E) (hr.mono (by decide)) rfl (pa_cons (pe_cE (ok_breakers_of E hPr) (hr.mono (by decide)) (L2N.takes_of rfl rfl rfl rfl) (fun _ _ _ _ z => z) rfl (pa_cons (pv 0) (pa_cons (pv 8) pa_nil))) (pa_cons (pe_callTy (tuple_ofK K) (by rfl) (E.free 40) (by decide +kernel) (pa_cons (pe_c (ok_law_least E) (hr.mono (by decide)) rfl (pa_cons (pv 6) pa_nil)) pa_nil)) pa_nil))))) (pss_one (ps_ret pe_bl)) pss_nil)
    (pss_one (ps_ret (pe_c (ok_same_tt E) (hr.mono (by decide)) rfl (pa_cons (pe_cE (ok_keepers_of E hPr) (hr.mono (by decide)) (L2N.takes_of rfl rfl rfl rfl) (fun _ _ _ _ z => z) rfl (pa_cons (pv 0) (pa_cons (pv 9) pa_nil))) (pa_cons (pe_callTy (tuple_ofK K) (by rfl) (E.free 40) (by decide +kernel) (pa_cons (pe_c (ok_law_greatest E) (hr.mono (by decide)) rfl (pa_cons (pv 6) pa_nil)) pa_nil)) pa_nil)))))))))))))))), fun g σ Q s fin finE => ?_⟩
    have hlen : (sT ts.l).length ≤ 5000 := by unfold sT; rw [List.length_map]; have := okT_len ok.t; omega
    have hin : ∀ x ∈ sT ts.l, InS ts.l x.l := fun x h => mem_sT.mp h
    have hb : ∀ t ∈ ts.l, t < 4096 := fun t h => by have := okT_top ok.t h; omega
    have ht := htold.2
    have hsz : ts.l.length ≤ 1000 := by have := ok.2.1; omega
    have hone : ∀ x ∈ sT ts.l, x.l.length ≤ 1000 ∧ ∀ t ∈ told, t.l.length = x.l.length := fun x h => ⟨by rw [(hin x h).len]; exact hsz, fun t h2 => (ht t h2).len.trans (hin x h).len.symm⟩
    -- free = [levels for levels in settings if not _law_above_one(told, levels)]
    refine st_set s (EvN.ev (en_lcL (m := fun x : Tup Int => x) tgt_name (ev_var rfl) (fun x hx => (et_not (et_B (ev_call (ea_cons (ev_var rfl) (ea_cons (ev_var rfl) ea_nil)) ⟨_, _, rfl, hone x hx, rfl⟩)))) (fun x hx _ => (ev_var rfl)) (by omega))) (fun v g h s => ?_)
    rw [List.map_id'] at s
    -- left
    try dsimp only
    refine st_set s (EvN.ev (en_lcL (m := fun x : Tup Int => x) tgt_name (ev_var rfl) (fun x hx => (et_not (et_B (ev_call (ea_cons (ev_var rfl) (ea_cons (ev_var rfl) ea_nil)) ⟨_, _, rfl, hone x hx, rfl⟩)))) (fun x hx _ => (ev_var rfl)) (by omega))) (fun v g h s => ?_)
    rw [List.map_id'] at s
    -- members
    try dsimp only
    refine st_set s (EvN.ev (en_lcL (m := fun x : Tup Int => x) (p := inT told) tgt_name (ev_var rfl) (fun x hx => (et_test (ev_inD (ev_var rfl) (ev_var rfl) inT_iff (fun _ _ => trivial) (fun _ _ _ _ => trivial)))) (fun x hx _ => (ev_var rfl)) (by omega))) (fun v g h s => ?_)
    rw [List.map_id'] at s
    -- passed = list(told)
    try dsimp only
    refine st_set s (ev_listL (ev_var rfl)) (fun v g h s => ?_)
    have hgre : ∀ p : Tup Int → Bool, ts.l.length ≤ 1000 ∧ (∀ t ∈ (sT ts.l).filter p, t.l.length = ts.l.length ∧ TS.Bd 4096 t.l) ∧ ((sT ts.l).filter p).length ≤ 5000 ∧ (((sT ts.l).filter p).Pairwise fun a b => TS.code 4096 a.l < TS.code 4096 b.l) ∧ (greatF ((sT ts.l).filter p)).length < 64 ∧ (ts.l.length = 0 → ((sT ts.l).filter p).length ≤ 1) := fun p => by
      have hf := List.length_filter_le p (sT ts.l)
      refine ⟨hsz, fun t h => ?_, by omega, (sT_pw hb).sublist List.filter_sublist, great_len ok (by decide) hb, fun z => Nat.le_trans hf ?_⟩
      · have := hin t (List.mem_filter.mp h).1
        exact ⟨this.len, this.bd hb⟩
      · rw [List.eq_nil_of_length_eq_zero z]; exact Nat.le_refl 1
    have hlea : ∀ p : Tup Int → Bool, ts.l.length ≤ 1000 ∧ (∀ t ∈ (sT ts.l).filter p, t.l.length = ts.l.length) ∧ ((sT ts.l).filter p).length ≤ 5000 := fun p => ⟨hsz, fun t h => (hin t (List.mem_filter.mp h).1).len, by have := List.length_filter_le p (sT ts.l); omega⟩
    have hok : ∀ L : List (Tup Int), L.Sublist (sT ts.l) → L.length ≤ 5000 ∧ ∀ t ∈ L, t.l.length ≤ 5000 := fun L h => ⟨Nat.le_trans h.length_le hlen, fun t ht => by rw [(hin t (h.subset ht)).len]; omega⟩
    have hokG : ∀ p : Tup Int → Bool, (greatF ((sT ts.l).filter p)).length ≤ 5000 ∧ ∀ t ∈ greatF ((sT ts.l).filter p), t.l.length ≤ 5000 := fun p => hok _ ((great_sub _).trans List.filter_sublist)
    have hokL : ∀ p : Tup Int → Bool, (leastF ((sT ts.l).filter p)).length ≤ 5000 ∧ ∀ t ∈ leastF ((sT ts.l).filter p), t.l.length ≤ 5000 := fun p => hok _ ((least_sublist _).trans List.filter_sublist)
    have hargs : ∀ n : Nat, n ≤ 5000 → (∀ t ∈ ts.l, 0 ≤ t) ∧ prodF ts.l < 2 ^ 63 ∧ ts.l.length ≤ 1000 ∧ n ≤ 5000 := fun n h => ⟨ok.1, by have := ok.2.2; omega, hsz, h⟩
    have hno : ¬ (4096 < prodF ts.l) := by have := ok.2.2; omega
    have htl : told.length ≤ 5000 := by have := htold.1; omega
    have hK := keep_eq (B := 4096) (by decide) hb ht
    have hBk := break_eq (B := 4096) (by decide) hb ht
    have hKB := keep_back (B := 4096) (by decide) hb ht (p := inT told) fun _ => inT_iff
    have hBB := break_back (B := 4096) (by decide) hb ht (p := inT told) fun _ => inT_iff
    rw [hBk] at hKB
    rw [hK] at hBB
    -- keepers = keepers_of(tops, passed)
    try dsimp only
    refine st_set s (ev_callE (z := Tup.mk (greatF ((sT ts.l).filter fun x => !abF told x.l))) (ea_cons (ev_var rfl) (ea_cons (ev_sqL (ev_var rfl)) ea_nil)) ⟨ts, _, rfl, hargs _ htl, fun _ => congrArg Tup.mk hK, fun z => (hno z).elim⟩) (fun v g h s => ?_)
    -- if passed != told or not _law_same(keepers, tuple(_law_greatest(free))):
    try dsimp only
    refine st_if s (et_or (et_test (ev_neD (c := true) (ev_var rfl) (ev_var rfl) ⟨fun _ => rfl, fun _ => rfl⟩ (fun _ _ _ _ => trivial) (fun _ _ _ _ => trivial))) fun _ => (et_not (et_B (ev_call (ea_cons (ev_var rfl) (ea_cons (ev_tupleL (ev_call (ea_cons (ev_var rfl) ea_nil) ⟨_, ts.l.length, 4096, rfl, hgre _, rfl⟩)) ea_nil)) ⟨_, rfl, hokG _, rfl⟩)))) (fun hc g h s => by cases hc) (fun _ g h s => ?_)
    dsimp only [tNext]
    -- breakers = breakers_of(tops, passed)
    try dsimp only
    refine st_set s (ev_callE (z := Tup.mk (leastF ((sT ts.l).filter fun x => !beF told x.l))) (ea_cons (ev_var rfl) (ea_cons (ev_sqL (ev_var rfl)) ea_nil)) ⟨ts, _, rfl, hargs _ htl, fun _ => congrArg Tup.mk hBk, fun z => (hno z).elim⟩) (fun v g h s => ?_)
    try dsimp only
    refine st_if s (et_or (et_test (ev_neD (c := true) (ev_var rfl) (ev_var rfl) ⟨fun _ => rfl, fun _ => rfl⟩ (fun _ _ _ _ => trivial) (fun _ _ _ _ => trivial))) fun _ => (et_not (et_B (ev_call (ea_cons (ev_var rfl) (ea_cons (ev_tupleL (ev_call (ea_cons (ev_var rfl) ea_nil) ⟨_, ts.l.length, rfl, hlea _, rfl⟩)) ea_nil)) ⟨_, rfl, hokL _, rfl⟩)))) (fun hc g h s => by cases hc) (fun _ g h s => ?_)
    dsimp only [tNext]
    -- of tuple(told)
    refine st_if s (et_not (et_B (ev_call (ea_cons (ev_callE (z := Tup.mk (greatF ((sT ts.l).filter fun x => !abF told x.l))) (ea_cons (ev_var rfl) (ea_cons (ev_sqT (ev_tupleL (ev_var rfl))) ea_nil)) ⟨ts, _, rfl, hargs _ htl, fun _ => congrArg Tup.mk hK, fun z => (hno z).elim⟩) (ea_cons (ev_tupleL (ev_call (ea_cons (ev_var rfl) ea_nil) ⟨_, ts.l.length, 4096, rfl, hgre _, rfl⟩)) ea_nil)) ⟨_, rfl, hokG _, rfl⟩))) (fun hc g h s => by cases hc) (fun _ g h s => ?_)
    dsimp only [tNext]
    refine st_if s (et_not (et_B (ev_call (ea_cons (ev_callE (z := Tup.mk (leastF ((sT ts.l).filter fun x => !beF told x.l))) (ea_cons (ev_var rfl) (ea_cons (ev_sqT (ev_tupleL (ev_var rfl))) ea_nil)) ⟨ts, _, rfl, hargs _ htl, fun _ => congrArg Tup.mk hBk, fun z => (hno z).elim⟩) (ea_cons (ev_tupleL (ev_call (ea_cons (ev_var rfl) ea_nil) ⟨_, ts.l.length, rfl, hlea _, rfl⟩)) ea_nil)) ⟨_, rfl, hokL _, rfl⟩))) (fun hc g h s => by cases hc) (fun _ g h s => ?_)
    dsimp only [tNext]
    -- the ways back
    refine st_if s (et_not (et_B (ev_call (ea_cons (ev_callE (z := Tup.mk (leastF ((sT ts.l).filter (inT told)))) (ea_cons (ev_var rfl) (ea_cons (ev_sqT (ev_var rfl)) ea_nil)) ⟨ts, _, rfl, hargs _ (hokG _).1, fun _ => congrArg Tup.mk hBB, fun z => (hno z).elim⟩) (ea_cons (ev_tupleL (ev_call (ea_cons (ev_var rfl) ea_nil) ⟨_, ts.l.length, rfl, hlea _, rfl⟩)) ea_nil)) ⟨_, rfl, hokL _, rfl⟩))) (fun hc g h s => by cases hc) (fun _ g h s => ?_)
    dsimp only [tNext]
    refine st_ret s (ev_call (ea_cons (ev_callE (z := Tup.mk (greatF ((sT ts.l).filter (inT told)))) (ea_cons (ev_var rfl) (ea_cons (ev_sqT (ev_var rfl)) ea_nil)) ⟨ts, _, rfl, hargs _ (hokL _).1, fun _ => congrArg Tup.mk hKB, fun z => (hno z).elim⟩) (ea_cons (ev_tupleL (ev_call (ea_cons (ev_var rfl) ea_nil) ⟨_, ts.l.length, 4096, rfl, hgre _, rfl⟩)) ea_nil)) ⟨_, rfl, hokG _, rfl⟩) ?_
    exact fun v g h s r => fin v true g h _ _ _ hP s r
end K14
namespace K14
open PySem PySem.Spec PyProof.Rows L2 Lw RZ
variable {P : Program} {w : World} {K : PySem.W.Frag} {mg : Str → Option Value} {base : Heap}
def a_lunc (K : PySem.W.Frag) : List (Slot K) → (Bool → Prop) → (Addr → List (Str × Slot K) → Prop) → Prop := fun xs P PE => ∃ (ts : Tup Int) (br kp : List (Tup Int)), xs = [sv ts, sv (sT ts.l), sv br, sv kp] ∧ (TopsOk ts ∧ br.length ≤ 5000 ∧ kp.length ≤ 5000 ∧ (∀ t ∈ br, InS ts.l t.l) ∧ ∀ t ∈ kp, InS ts.l t.l) ∧ P true
theorem sc_law_uncovered : FnScope ["tops", "settings", "breakers", "keepers", "due", "levels", "passed", "told", "again"] ["tops", "settings", "breakers", "keepers"] (defScope (topS 33)) := ⟨rfl, rfl, rfl, by decide +kernel, rfl, by decide +kernel, by decide +kernel⟩
theorem ok_law_uncovered (E : FX K mg) (hPr : P = PySem.Challenge.pw_planyard_k14_closing_whole) : CalE P w K mg base "_law_uncovered" 5 ["tops", "settings", "breakers", "keepers"] (SpE K (a_lunc K)) := by
  refine E.f.calE 27 29 (st := topS 33) rfl rfl (fun _ _ _ _ _ _ us hl => match us, hl with | [_, _, _, _], _ => rfl) fun f fd F => okED F sc_law_uncovered (fun xs P' PE h => ?_) (fun cdv Ar outer s0 H0 E0 hr xs P' PE h => ?_)
  · obtain ⟨_, _, _, rfl, _⟩ := h; rfl
  · obtain ⟨ts, br, kp, rfl, ⟨ok, hl1, hl2, h1, h2⟩, hP⟩ := h
    refine ⟨_, (pss_cons (ps_set (i := 4) sc_law_uncovered.nd rfl (.inl rfl) pe_non)
    (pss_cons (ps_for (passes_of rfl) rfl (pi_reversed (by rfl) (E.free 39) (pa_cons (pv 1) pa_nil)) (pg_name (i := 5) sc_law_uncovered.nd rfl (.inl rfl))
      (pss_one (ps_if (PW.pt (pw_and (pt_not (pt_val (pe_c (ok_law_above_one E) (hr.mono (by decide)) rfl (pa_cons (pv 2) (pa_cons (pv 5) pa_nil))))) (pw_and1 (pt_not (pt_val (pe_c (ok_law_below_one E) (hr.mono (by decide)) rfl (pa_cons (pv 3) (pa_cons (pv 5) pa_nil)))))))) (pss_one (ps_set (i := 4) sc_law_uncovered.nd rfl (.inl rfl) (pv 5))) pss_nil)))
    (pss_cons (ps_set (i := 6) sc_law_uncovered.nd rfl (.inl rfl) (pe_lst (pa_cons (pe_callTy (list_ofK K) (by rfl) (E.free 45) (by decide +kernel) (pa_cons (pv 2) pa_nil)) (pa_cons (pe_callTy (list_ofK K) (by rfl) (E.free 45) (by decide +kernel) (pa_cons (pv 3) pa_nil)) pa_nil))))
    (pss_cons (ps_set (i := 7) sc_law_uncovered.nd rfl (.inl rfl) (pe_cE (ok_uncovered E hPr) (hr.mono (by decide)) (L2N.takes_of rfl rfl rfl rfl) (fun _ _ _ _ z => z) rfl (pa_cons (pv 0) (pa_cons (pe_ix (ix_listK K) (pv 6) pe_int (fun _ _ => rfl)) (pa_cons (pe_ix (ix_listK K) (pv 6) pe_int (fun _ _ => rfl)) pa_nil)))))
    (pss_cons (ps_set (i := 8) sc_law_uncovered.nd rfl (.inl rfl) (pe_cE (ok_uncovered E hPr) (hr.mono (by decide)) (L2N.takes_of rfl rfl rfl rfl) (fun _ _ _ _ z => z) rfl (pa_cons (pv 0) (pa_cons (pe_callTy (tuple_ofK K) (by rfl) (E.free 40) (by decide +kernel) (pa_cons (pv 2) pa_nil)) (pa_cons (pe_callTy (tuple_ofK K) (by rfl) (E.free 40) (by decide +kernel) (pa_cons (pv 3) pa_nil)) pa_nil)))))
    (pss_cons (ps_if (PW.pt (pw_or (pt_cmpR (neDK K hr.units) (pe_ix (ix_listK K) (pv 6) pe_int (fun _ _ => rfl)) (pv 2) (nomark _)) (pw_or1 (pt_cmpR (neDK K hr.units) (pe_ix (ix_listK K) (pv 6) pe_int (fun _ _ => rfl)) (pv 3) (nomark _))))) (pss_one (ps_ret pe_bl)) pss_nil)
    (pss_cons (ps_if (pt_cmpR op_isN (pv 4) pe_non (nomark _)) (pss_one (ps_ret (pe_and (pe_cmpR op_isN (pv 7) pe_non (nomark _)) (pe_one (pe_cmpR op_isN (pv 8) pe_non (nomark _)))))) pss_nil)
    (pss_one (ps_ret (pe_and (pe_c (ok_same_ti E) (hr.mono (by decide)) rfl (pa_cons (pv 7) (pa_cons (pv 4) pa_nil))) (pe_one (pe_c (ok_same_ti E) (hr.mono (by decide)) rfl (pa_cons (pv 8) (pa_cons (pv 4) pa_nil)))))))))))))), fun g σ Q s fin finE => ?_⟩
    have hin : ∀ x ∈ sT ts.l, InS ts.l x.l := fun x h => mem_sT.mp h
    have hb : ∀ t ∈ ts.l, t < 4096 := fun t h => by have := okT_top ok.t h; omega
    have hsz : ts.l.length ≤ 1000 := by have := ok.2.1; omega
    have hno : ¬ (4096 < prodF ts.l) := by have := ok.2.2; omega
    have hU := unc_eq (B := 4096) (by decide) hb h1 h2
    -- due = None
    refine st_set s (ev_noneO (α := Tup Int)) (fun v g h s => ?_)
    -- for levels in reversed(settings):
    try dsimp only
    refine st_for_rev tgt_name s (ev_var rfl) (fun n e o => ∃ (s5 s6 s7 s8 : Slot K), e = [sv ts, sv (sT ts.l), sv br, sv kp, sv ((((sT ts.l).reverse.take n).reverse).find? fun x => !abF br x.l && !beF kp x.l), s5, s6, s7, s8] ∧ o = []) ⟨_, _, _, _, rfl, rfl⟩ (fun n x hx c hls e o g h σ N hI back s hN => ?_) (fun e o g h σ hI s => ?_)
    · obtain ⟨s5, s6, s7, s8, rfl, rfl⟩ := hI
      have hxS := hin x (List.mem_reverse.mp (List.mem_of_getElem? hx))
      have hstep : ((sT ts.l).reverse.take (n + 1)).reverse = x :: ((sT ts.l).reverse.take n).reverse := by rw [List.take_add_one, hx, List.reverse_append]; rfl
      refine st_if s (et_and (et_not (et_B (ev_call (ea_cons (ev_var rfl) (ea_cons (ev_var rfl) ea_nil)) ⟨_, _, rfl, ⟨by rw [hxS.len]; exact hsz, fun t ht => (h1 t ht).len.trans hxS.len.symm⟩, rfl⟩))) fun _ => (et_not (et_B (ev_call (ea_cons (ev_var rfl) (ea_cons (ev_var rfl) ea_nil)) ⟨_, _, rfl, ⟨by rw [hxS.len]; exact hsz, fun t ht => (h2 t ht).len.trans hxS.len.symm⟩, rfl⟩)))) (fun hc g h s => ?_) (fun hc g h s => ?_)
      · refine st_set s (ev_someT (ev_var rfl)) (fun v g h s => ?_)
        have hf := List.find?_cons_of_pos (p := fun x : Tup Int => !abF br x.l && !beF kp x.l) (l := ((sT ts.l).reverse.take n).reverse) hc
        exact hN _ _ _ _ _ ⟨_, _, _, _, by rw [hstep, hf]; rfl, rfl⟩ s
      · have hf := List.find?_cons_of_neg (p := fun x : Tup Int => !abF br x.l && !beF kp x.l) (a := x) (l := ((sT ts.l).reverse.take n).reverse) (show ¬ (!abF br x.l && !beF kp x.l) = true by rw [hc]; exact Bool.false_ne_true)
        exact hN _ _ _ _ _ ⟨_, _, _, _, by rw [hstep, hf]; rfl, rfl⟩ s
    · obtain ⟨s5, s6, s7, s8, rfl, rfl⟩ := hI
      dsimp only
      rw [← List.length_reverse, List.take_length, List.reverse_reverse, ← hU] at s
      have hargs : (∀ t ∈ ts.l, 0 ≤ t) ∧ prodF ts.l < 2 ^ 63 ∧ ts.l.length ≤ 1000 ∧ br.length ≤ 5000 ∧ kp.length ≤ 5000 := ⟨ok.1, by have := ok.2.2; omega, hsz, hl1, hl2⟩
      have hlenU : ∀ x : Tup Int, (uncF ts.l br kp).map Tup.mk = some x → x.l.length ≤ 5000 := fun x hx => by
        rw [hU] at hx
        rw [(hin x (List.mem_of_find?_eq_some hx)).len]; omega
      refine st_set s (ev_lstL (el_cons (ev_listL (ev_var rfl)) (el_cons (ev_listL (ev_var rfl)) el_nil))) (fun v g h s => ?_)
      try dsimp only
      refine st_set s (ev_callE (z := (uncF ts.l br kp).map Tup.mk) (ea_cons (ev_var rfl) (ea_cons (ev_sqL (ev_ixL (x := br) (ev_var rfl) ev_int rfl)) (ea_cons (ev_sqL (ev_ixL (x := kp) (ev_var rfl) ev_int rfl)) ea_nil))) ⟨ts, _, _, rfl, hargs, fun _ => rfl, fun z => (hno z).elim⟩) (fun v g h s => ?_)
      try dsimp only
      refine st_set s (ev_callE (z := (uncF ts.l br kp).map Tup.mk) (ea_cons (ev_var rfl) (ea_cons (ev_sqT (ev_tupleL (ev_var rfl))) (ea_cons (ev_sqT (ev_tupleL (ev_var rfl))) ea_nil))) ⟨ts, _, _, rfl, hargs, fun _ => rfl, fun z => (hno z).elim⟩) (fun v g h s => ?_)
      try dsimp only
      refine st_if s (et_or (et_test (ev_neD (c := true) (ev_ixL (x := br) (ev_var rfl) ev_int rfl) (ev_var rfl) ⟨fun _ => rfl, fun _ => rfl⟩ (fun _ _ _ _ => trivial) (fun _ _ _ _ => trivial))) fun _ => (et_test (ev_neD (c := true) (ev_ixL (x := kp) (ev_var rfl) ev_int rfl) (ev_var rfl) ⟨fun _ => rfl, fun _ => rfl⟩ (fun _ _ _ _ => trivial) (fun _ _ _ _ => trivial)))) (fun hc g h s => by cases hc) (fun _ g h s => ?_)
      dsimp only [tNext]
      cases hu : (uncF ts.l br kp).map Tup.mk with
      | none =>
        simp only [hu] at s
        refine st_if s (et_test (ev_isN (ev_var rfl))) (fun _ g h s => ?_) (fun hc g h s => by cases hc)
        refine st_ret s (ev_andV (ev_isN (ev_var rfl)) fun _ => (ev_isN (ev_var rfl))) ?_
        exact fun v g h s r => fin v true g h _ _ _ hP s r
      | some x =>
        simp only [hu] at s
        refine st_if s (et_test (ev_isN (ev_var rfl))) (fun hc g h s => by cases hc) (fun _ g h s => ?_)
        dsimp only [tNext]
        refine st_ret s (ev_andV (ev_call (ea_cons (ev_varS rfl) (ea_cons (ev_varS rfl) ea_nil)) ⟨x, rfl, ⟨hlenU x hu, trivial⟩, rfl⟩) fun _ => (ev_call (ea_cons (ev_varS rfl) (ea_cons (ev_varS rfl) ea_nil)) ⟨x, rfl, ⟨hlenU x hu, trivial⟩, rfl⟩)) ?_
        exact fun v g h s r => fin v true g h _ _ _ hP s r
end K14
/-! Defs called within an except suite (pure ones). -/
namespace Lw
open PySem PySem.Spec PyProof.Rows L2 L2H RZ
def CalH (P : Program) (w : World) (K : PySem.W.Frag) (mg : Str → Option Value) (base : Heap) (x : Str) (k : Nat) (ps : List Str) (sp : Sp) : Prop :=
  ∃ f fd, mg x = some (.ref f) ∧ PySem.W.keepIn K (.ref f) = true ∧ Binds K fd ps [] ∧ FnH P w K mg base CX0 k f fd ps sp
section
variable {fa : List He.Fa} {fn : List He.DefD} {ex : PySem.W.Frag → Bool} {K : PySem.W.Frag} {mg : Str → Option Value} {P : Program} {w : World} {base : Heap}
theorem Fx.calH (E : Fx fa fn ex K mg) (i j : Nat) {x : Str} {st : Stmt} {ps : List Str} {k : Nat} {sp : Sp} (hi : fn[i]? = some ⟨(x, none), x, x, defArgs st, defBody st, defScope st, [], []⟩) (hj : fa[j]? = some (.glo x))
    (hbi : ∀ (kV doc pm : Value) (an : Option Addr) (cdv ct : Value) (us : List Value), us.length = ps.length → bindArgs (PySem.W.fnOf x x (defArgs st) (defBody st) (defScope st) .none kV doc pm an cdv ct) ⟨us, []⟩ = pure (ps.zip us))
    (hf : ∀ f fd, FunD K x x (defArgs st) (defBody st) (defScope st) [] [] f fd → FnH P w K mg base CX0 k f fd ps sp) : CalH P w K mg base x k ps sp := by
  obtain ⟨fd, F⟩ := E.d.def_ i hi
  exact ⟨_, fd, E.gref j hj, F.kp, F.bindsN hbi, hf _ fd F⟩
theorem okRDH {γ : Type} [iγ : Py K γ] {x qual : Str} {st : Stmt} {f : Addr} {fd : FuncData} {N ps : List Str} {k : Nat} {A : List (Slot K) → (γ → Prop) → Prop} {dvs : List V} {kws : List (Str × V)} (F : FunD K x qual (defArgs st) (defBody st) (defScope st) dvs kws f fd) (S : FnScope N ps (defScope st)) (hlen : ∀ xs P', A xs P' → xs.length = ps.length)
    (hb : ∀ (cdv : Value) (Ar : Around) (outer : List PySem.Env) (s : Shared) (H : Hp) (E : XK) (p : Addr × Obj), Hot1 Ar p → RoomH k (Ar.deeper (envOfC qual (defScope st) s.heap.objs.size f cdv)) → ∀ (xs : List (Slot K)) (P' : γ → Prop), A xs P' →
      ∃ t, PSs (cxH CX0 P w K mg base N qual (defScope st) f cdv Ar outer s H E p).nox (defBody st) t ∧
        ∀ (g : Hp) (σ : L2.St) (Q : VK), S0 ⟨[], g, H⟩ g H σ (xs ++ List.replicate (N.length - xs.length) .unk) [] →
          (∀ v z g' h' σ' env' os', P' z → S0 ⟨[], g, H⟩ g' h' σ' (env' : Env K) os' → iγ.R g' v z → Q v h') → t { nx := fun _ H' => Q .non H', rt := Q } σ H) : FnH P w K mg base CX0 (k + 1) f fd ps (SpR K A) := by
  obtain ⟨oc, od, dV, kV, doc, pm, an, cdv, ct, osl, rfl, lk, hcd, _, _⟩ := F.ex
  refine fn_ofH lk hcd S (fun vs H Q E h => ?_) (fun A outer s H vs Q E p hp hr h => ?_)
  · obtain ⟨g, xs, P', hA, _, r, _⟩ := h
    rw [args_len r]
    exact hlen xs P' hA
  · obtain ⟨g, xs, P', hA, gh, r, q⟩ := h
    obtain ⟨t, ht, hq⟩ := hb cdv A outer s H E p hp hr xs P' hA
    exact ⟨t, ht.nox, hq g _ Q (S0.start gh r) fun v z g' h' σ' env' os' hz s' rz => q v z g' h' hz (s'.fin rfl) rz⟩
end
section
variable {X : Cx} {x : Str} {k : Nat} {ps : List Str} {sp : Sp} {e : Expr} {es : List Expr} {p pos : Pos} {t : TA}
/-- a call of such a def in a suite -/
theorem pe_cH (C : CalH X.prog X.w X.K X.mg X.base x k ps sp) (hr : RoomH k X.A) (hc : HotC X) (hg : Gl X x) (ha : PA X (e :: es) t) (hdb : (x == ("__debug__" : Str)) = false := by decide)
    (he : starEach (e :: es) X.env = (false, eval e X.env) :: starEach es X.env := by rfl) (hpl : (backTo pos (starEach es X.env)).any (·.1) = false := by rfl) : PE X (.Call (.Name x p) (e :: es) [] pos) (tCallS sp (fun _ => E0) t) := by
  obtain ⟨f, fd, gm, kp, bi, ok⟩ := C
  exact pe_callH ok hr hc hg gm kp bi (fun _ _ _ _ _ _ _ h => (h : False).elim) ha hdb he hpl
end
/-- a caught exception: object, dict, class; its fields are fs -/
structure Xcp {K : PySem.W.Frag} (fs : List (Str × Slot K)) : Type where
  a : Addr
  d : Addr
  C : Addr
instance instXcp {K : PySem.W.Frag} {fs : List (Str × Slot K)} : Py K (Xcp fs) := ⟨fun g v x => v = .ref x.a ∧ ∃ ws, g x.d = some (.xd ws) ∧ FsR g ws fs, fun {g g' v x} e ⟨h1, ws, h2, h3⟩ => ⟨h1, ws, e _ _ h2, fsr_mono e h3⟩⟩
theorem fsr_at {K : PySem.W.Frag} {g : Hp} {f : Str} {t : Slot K} : ∀ {ws : List (Str × V)} {fs : List (Str × Slot K)}, FsR g ws fs → fs.lookup f = some t → ∃ v, ws.lookup f = some v ∧ t.ok g (some v)
  | _, _, .nil, h => nomatch h
  | (an, av) :: ws, (cn, cs) :: fs, .cons r p, h => by
    obtain ⟨e, r⟩ := r
    have e : an = cn := e
    subst e
    rw [List.lookup_cons] at h ⊢
    cases q : (f == an) with
    | true => rw [q] at h; cases h; exact ⟨_, rfl, r⟩
    | false => rw [q] at h; exact fsr_at p h
section
variable {K : PySem.W.Frag} {α β γ : Type} [iα : Py K α] [iγ : Py K γ] {env : Env K} {os : Os} {b : Bs} {g h : Hp} {σ : L2.St} {D : Ends} {i : Nat}
/-- err.f -/
theorem ev_xf {fs : List (Str × Slot K)} {x : Xcp fs} {f : Str} {y : α} (hx : env[i]? = some (sv x)) (hf : fs.lookup f = some (sv y)) : Ev (tXf x.a (.ref x.C) (some x.d) x.C f (tVar i)) env os y := fun {b g h σ Q} s q =>
  ev_var hx s fun v g1 h1 l1 r1 => by
    obtain ⟨rfl, ws, hd, p⟩ := r1
    obtain ⟨v, hv, v', e, r⟩ := fsr_at p hf
    cases e
    exact ⟨rfl, rfl, x.d, ws, v, rfl, l1.gh _ _ hd, hv, q v g1 h1 l1 r⟩
/-- try: f(..) (the answer dropped) except C as n: .. -/
theorem st_tryE {A : List (Slot K) → (γ → Prop) → (Addr → List (Str × Slot K) → Prop) → Prop} {P : γ → Prop} {PE : Addr → List (Str × Slot K) → Prop} {xs : List (Slot K)} {ta : TA} {c : Value} {tsu : Addr → Value → Option Addr → TS} {Wout : WX}
    (s : S0 b g h σ env os) (e : EvA ta env os xs) (hA : A xs P PE) (hcls : ∀ C fs, PE C fs → PySem.W.exmOne K (.ref C) c = some true) (k : ∀ z, P z → ∀ g' h', S0 b g' h' σ env os → D.nx σ h')
    (kx : ∀ C fs (a d : Addr) g' h', PE C fs → S0 b g' h' (σ.set i (some (.ref a))) (env.set i (sv (Xcp.mk (fs := fs) a d C))) os → tsu a (.ref C) (some d) { nx := fun σ' H' => D.nx (σ'.set i none) H', rt := D.rt, bk := fun σ' H' => D.bk (σ'.set i none) H', ct := fun σ' H' => D.ct (σ'.set i none) H' } (σ.set i (some (.ref a))) h') :
    tDrop (tCallS (SpE K A) (WE (wAs K c i tsu Wout D)) ta) D σ h :=
  sE_callS s e hA (fun v z g' h' hz s' _ _ => k z hz g' h' s') fun C fs d ws g' h' he s' hd hf => by
    have le := Le.laid s'.gh hd (o := .xd ws)
    exact ⟨true, hcls C fs he, fun _ a ha => kx C fs a d _ _ he ((s'.le le).set ⟨_, rfl, rfl, ws, upd_same, fsr_mono le.gg hf⟩), fun z => nomatch z⟩
end
theorem hot_of {CX : CXT} {P : Program} {w : World} {K : PySem.W.Frag} {mg : Str → Option Value} {base : Heap} {N : List Str} {qual : Str} {scope : Scope} {f : Addr} {cd : Value} {A : Around} {outer : List PySem.Env} {s : Shared} {H : Hp} {E : XK} {p : Addr × Obj} (h : Hot1 A p) : HotC (cxH CX P w K mg base N qual scope f cd A outer s H E p).nox := ⟨p, h, List.mem_singleton.mpr rfl⟩
theorem RoomH.u64 {k : Nat} {A : Around} (r : RoomH k A) : A.units + 64 < cLine := by have := r.un; omega
section
variable {K : PySem.W.Frag} {α β : Type} [iα : Py K α] [iβ : Py K β] {env : Env K} {os : Os} {ta tb : TE}
/-- a pair at a drawn place -/
theorem ev_ixP0v {x : α × β} {n : Int} (ha : Ev ta env os x) (hb : Ev tb env os n) (hn : n = 0) : Ev (tOp (rIxT K) ta tb) env os x.1 := fun {b g h' σ Q} s q =>
  ha s fun v g1 h1 l1 r1 => hb (s.le l1) fun w g2 h2 l2 r2 => by
    obtain ⟨a, u, w, rfl, h3, h4, h5⟩ := r1
    subst hn
    exact ⟨a, [u, w], 0, u, rfl, r2, same_tup (l2.gg.trans l2.gh) h3, rfl, q _ _ _ (l1.trans l2) (iα.mono l2.gg h4)⟩
theorem ev_ixP1v {x : α × β} {n : Int} (ha : Ev ta env os x) (hb : Ev tb env os n) (hn : n = 1) : Ev (tOp (rIxT K) ta tb) env os x.2 := fun {b g h' σ Q} s q =>
  ha s fun v g1 h1 l1 r1 => hb (s.le l1) fun w g2 h2 l2 r2 => by
    obtain ⟨a, u, w, rfl, h3, h4, h5⟩ := r1
    subst hn
    exact ⟨a, [u, w], 1, w, rfl, r2, same_tup (l2.gg.trans l2.gh) h3, rfl, q _ _ _ (l1.trans l2) (iβ.mono l2.gg h5)⟩
theorem ev_lenP {x : α × β} (ha : Ev ta env os x) : Ev (tCB (fun xs H Q => ∃ p ys, xs = [V.ref p] ∧ (SqL K H p ys ∨ SqT K H p ys) ∧ Q (.int ys.length) H) (tCons ta tNil)) env os (2 : Int) := ev_cb1 ha fun v g h e r Q q => by
  obtain ⟨a, u, w, rfl, h3, h4, h5⟩ := r
  exact ⟨a, [u, w], rfl, .inr (same_tup e h3), q _ g h (Le.refl e) rfl⟩
end
section
variable {K : PySem.W.Frag} {γ : Type} [iγ : Py K γ] {env : Env K} {os : Os}
theorem ev_callS {A : List (Slot K) → (γ → Prop) → Prop} {xs : List (Slot K)} {E : L2.St → XK} {ts : TA} {z : γ} (e : EvA ts env os xs) (hA : A xs (fun y => y = z)) : Ev (tCallS (SpR K A) E ts) env os z := fun {b g h σ Q} s q => e s fun vs g1 h1 l1 r1 => ⟨g1, xs, _, hA, l1.gh, r1, fun v z' g2 h2 hz l2 r2 => q v g2 h2 (l1.trans l2) (hz ▸ r2)⟩
end
end Lw
/-! list(reversed(xs)). -/
namespace Lw
open PySem PySem.Spec PyProof.Rows L2 RT
section
variable {prog : Program} {w : World} {A : Around} {E : Value → Shared → Prop} {s : Shared}
/-- a list's own extension by a reversed walk over another list -/
theorem ext_rev {S it l : Addr} {ys : Array Value} {res : Value} {c₀ : Nat} {R : Result → Shared → Prop} (hh : A.in1.handled = none) (hit : s.heap.IsRevIter it l ((ys.size : Int) - 1)) (hl : s.heap.IsList l ys) (hne : l ≠ it) (hS1 : S ≠ it) (hS2 : S ≠ l) (hn : ys.size ≤ sizeLine)
    (hS : s.heap.get? S = some { cls := .type "list", data := .seq #[] c₀ })
    (hR : ∀ (h' : Heap) (tk : Nat) (acc : Array Value) (c' : Nat), (∀ b o, b ≠ it → b ≠ S → s.heap.get? b = some o → h'.get? b = some o) → ItemsOf (fun i v => ys[ys.size - 1 - i]? = some v) acc ys.size →
      h'.get? S = some { cls := .type "list", dict := none, data := .seq acc c', slots := #[] } → R (.ok (.ret res)) { s with heap := h', toks := tk }) :
    wpAny (model prog w) A.in1 (Builtin.List.listExtendWith (.ref S) (.ref it) res)
      (fun fin s' => match fin with | .done f => R (.ok f) s' | .again c' => c'.quiet = true ∧ codeAny (model prog w) A c' R s') (fun e s' => R (.error e) s') s := by
  have W := (Walks.listRev (prog := prog) (w := w) (A := A.in1) hh it l hne ys).toS
  have notin : S ∉ [it, l] := by simp only [List.mem_cons, List.not_mem_nil, or_false, not_or]; exact ⟨hS1, hS2⟩
  have tyIt : s.TypeIs (.ref it) "list_reverseiterator" := hit.typeIs
  have sameNo : Builtin.List.listSameRef (.ref S) (.ref it) = false := by simp [Builtin.List.listSameRef, hS1]
  unfold Builtin.List.listExtendWith
  refine wpAny_bind (wpAny_typeOf tyIt ?_)
  rw [if_neg (by rw [sameNo]; decide)]
  refine wpAny_bind (wpAny_pyIter_revIter hit ?_)
  refine wpAny_bind (wpAny_holding ?_)
  unfold Builtin.List.listLengthHint
  refine wpAny_bind (wpAny_specialOf tyIt nolen_lri ?_)
  show wpAny _ A.in1 (specialOf (Value.ref it) (Str.ofString "__length_hint__") >>= _) _ _ _
  refine wpAny_bind (wpAny_specialOf tyIt hint_lri ?_)
  generalize hid : ("list_reverseiterator.__length_hint__" : String) = id1
  wp_delta
  rw [show splitId id1 = some ("list_reverseiterator", "__length_hint__") from by subst hid; decide +kernel]
  subst hid
  refine wpAny_bind (wpAny_isInstance (b := true) tyIt (by rw [isSubtype_type]; kernel_rfl) ?_)
  refine wpAny_pure ?_
  rw [if_neg (by decide)]
  have e0 : ((ys.size : Nat) : Int) - 1 - ((0 : Nat) : Int) = (ys.size : Int) - 1 := by omega
  refine wpAny_pure ⟨plainId_quiet F.plain_extend_loop _, codeAny_extend_loopS W hn _ notin _ ys.size 0 _ _ _ rfl (Nat.zero_le _) ⟨Nat.zero_le _, by rw [e0]; exact hit, hl⟩ hS (ItemsOf.nil _) fun s' acc' c' hm hS' hacc => ?_⟩
  rw [Moved.eq_with hm]
  refine hR s'.heap s'.toks acc' c' (fun b o hb hbS e => hm.heap b o (fun hmem => ?_) e) hacc hS'
  rcases List.mem_cons.mp hmem with e' | hmem
  · exact hbS e'
  · exact hb (List.mem_singleton.mp hmem)
theorem lst_of_rev {it l : Addr} {ys : Array Value} {Q : Value → Shared → Prop} (hh : A.handled = none) (hit : s.heap.IsRevIter it l ((ys.size : Int) - 1)) (hl : s.heap.IsList l ys) (hne : l ≠ it) (hn : ys.size ≤ sizeLine)
    (hQ : ∀ (h' : Heap) (tk : Nat) (acc : Array Value) (c' : Nat), (∀ b o, b ≠ it → s.heap.get? b = some o → h'.get? b = some o) → ItemsOf (fun i v => ys[ys.size - 1 - i]? = some v) acc ys.size →
      h'.get? s.heap.objs.size = some { cls := .type "list", dict := none, data := .seq acc c', slots := #[] } → Q (.ref s.heap.objs.size) { s with heap := h', toks := tk }) :
    wpAny (model prog w) A (call (.type "list") [.ref it]) Q E s := by
  obtain ⟨oi, hoi, _⟩ := id hit
  obtain ⟨ol, hol, _⟩ := id hl
  have hSi : s.heap.objs.size ≠ it := Nat.ne_of_gt (Heap.lt_size hoi)
  have hSl : s.heap.objs.size ≠ l := Nat.ne_of_gt (Heap.lt_size hol)
  refine callType_codes (Q₁ := fun obj s₁ => obj = .ref s.heap.objs.size ∧ s₁ = { s with heap := s.heap.push { cls := .type "list", data := .seq #[] } }) F.called_list (F.typeCall_list_1 _) F.entry_list_init
    (code_list_new _ ⟨rfl, rfl⟩) fun obj s₁ both => ?_
  obtain ⟨rfl, rfl⟩ := both
  have new0 : (s.heap.push { cls := .type "list", data := .seq #[] }).get? s.heap.objs.size = some { cls := .type "list", data := .seq #[] } := Heap.get?_push_size _ rfl
  refine ⟨⟨_, new0, rfl⟩, F.args_list_init_2 _ _, ?_⟩
  show wpAny _ A.in1.in1 (do let old ← Builtin.List.listItems (.ref s.heap.objs.size); Builtin.List.listUpdate (.ref s.heap.objs.size) (fun _ => #[]); letGo old.toList.reverse; Builtin.List.listExtendWith (.ref s.heap.objs.size) (.ref it) .none) _ _ _
  refine wpAny_bind ?_
  unfold Builtin.List.listItems
  refine wpAny_bind (wpAny_seqItems new0 rfl (wpAny_pure ?_))
  show wpAny _ A.in1.in1 (updateSeq s.heap.objs.size (fun _ => #[]) >>= fun _ => letGo (#[] : Array Value).toList.reverse >>= fun _ => Builtin.List.listExtendWith (.ref s.heap.objs.size) (.ref it) .none) _ _ _
  refine wpAny_bind (wpAny_updateSeq new0 rfl ?_)
  have new1 := Heap.get?_update_self (Obj.mapSeq (fun _ => (#[] : Array Value))) new0 rfl
  have keep : ∀ b o, b ≠ s.heap.objs.size → s.heap.get? b = some o → ((s.heap.push { cls := .type "list", data := .seq #[] }).update s.heap.objs.size (Obj.mapSeq (fun _ => (#[] : Array Value)))).get? b = some o :=
    fun b o hb e => (Heap.get?_update_other _ _ (Ne.symm hb)).trans (Heap.get?_push_of_some _ e)
  refine wpAny_bind (wpAny_letGo ?_)
  refine ext_rev (A := A.in1) hh (hit.at fun o e => keep _ o (Ne.symm hSi) e) (hl.at fun o e => keep _ o (Ne.symm hSl) e) hne hSi hSl hn new1 fun h' tk acc c' hk hacc hS' => ?_
  refine ⟨rfl, hQ h' tk acc c' (fun b o hb e => ?_) hacc hS'⟩
  have hbS : b ≠ s.heap.objs.size := fun z => Nat.lt_irrefl _ (z ▸ Heap.lt_size e)
  exact hk b o hb hbS (keep b o hbS e)
end
section
variable {X : Cx}
def tLstRev (K : PySem.W.Frag) (te : TE) : TE := fun σ H Q => te σ H fun v H1 => ∃ (a : Addr) (xs : List V), v = .ref a ∧ SqL K H1 a xs ∧ ∀ p, H1 p = none → Q (.ref p) (upd H1 p (.lst xs.reverse))
theorem pe_listRev {e : Expr} {te : TE} {p p2 pos pos2 : Pos} (hc : X.calm = true) (hg : Gl X "list") (hm : X.mg "list" = none) (hg2 : Gl X "reversed") (hm2 : X.mg "reversed" = none) (he : PE X e te)
    (hs : starEach [e] X.env = (false, eval e X.env) :: starEach [] X.env := by rfl)
    (hs2 : starEach [.Call (.Name "reversed" p2) [e] [] pos2] X.env = (false, eval (.Call (.Name "reversed" p2) [e] [] pos2) X.env) :: starEach [] X.env := by rfl) :
    PE X (.Call (.Name "list" p) [.Call (.Name "reversed" p2) [e] [] pos2] [] pos) (tLstRev X.K te) := by
  refine ⟨fun pins s σ H Q I h => ?_⟩
  refine Call_ (ld_blt I hg hm PyProof.Rows.boot_list (PyProof.Rows.callWith_type1 (args_cons (Call_ (ld_blt I hg2 hm2 PyProof.Rows.boot_reversed (PyProof.Rows.callWith_type1 (args_cons (thn (he.run pins s σ H _ I h) fun u s1 ⟨v, H1, I1, r1, q1⟩ => args_nil ?_) hs) hs rfl))) hs2) hs2 rfl))
  obtain ⟨a, xs, ev, hq, q⟩ := q1
  subst ev
  obtain rfl : u = Value.ref a := r1
  obtain ⟨its, rv, p', hz⟩ := I1.list hq
  refine call_reversed_list p'.isList (args_nil ?_)
  have I2 : Inv X pins σ H1 { s1 with heap := s1.heap.push (revObj a ((its.toArray.size : Int) - 1)) } := I1.kept (t' := s1.toks) (fun b o e => Heap.get?_push_of_some _ e)
  obtain ⟨f0, f1, f2, f3, f4, f5⟩ := I1.fpOk (H' := H1) (b := s1.heap.objs.size) (Nat.le_refl _) (I1.hok.fresh (Nat.le_refl _))
  have hl := p'.isList
  obtain ⟨ol, hol, _⟩ := id hl
  have hne : a ≠ s1.heap.objs.size := Nat.ne_of_lt (Heap.lt_size hol)
  have hn : its.toArray.size ≤ sizeLine := by rw [List.size_toArray, ← rv.length]; exact hz
  refine lst_of_rev (s := { s1 with heap := s1.heap.push (revObj a ((its.toArray.size : Int) - 1)) }) (I1.ok.hd hc) ⟨_, Heap.get?_push_size _ rfl, rfl, rfl⟩ (hl.push _) hne hn fun h' tk acc c' hk hi hS => ?_
  have hsz : ({ s1 with heap := s1.heap.push (revObj a ((its.toArray.size : Int) - 1)) } : Shared).heap.objs.size = s1.heap.objs.size + 1 := by simp [Heap.push]
  refine ⟨.ref _, upd H1 _ (.lst xs.reverse), I2.turnedNew (t' := tk) (ch := [s1.heap.objs.size]) (ob := .lst xs.reverse) (fun b o hb e => hk b o (fun z => hb (by rw [z]; exact List.mem_cons_self)) e) (fun b hb => ?_) (Nat.le_refl _) (show ObjOk X.prog X.w _ _ _ (.lst xs.reverse) from ⟨by rw [List.length_reverse]; exact hz, acc.toList, c', vals_rev rv hi, ?_⟩), rfl, q _ (I2.hok.fresh (Nat.le_refl _))⟩
  · rw [List.mem_singleton] at hb
    subst hb
    exact ⟨f0, f1, f2, f3, f4, f5⟩
  · simpa using hS
end
section
variable {K : PySem.W.Frag} {env : Env K} {os : Os} {ta : TE} {α : Type} [iα : Py K α] {i m : Nat} {l : Addr}
theorem en_revL {xs : List α} (ha : Ev ta env os xs) : EvN (tLstRev K ta) env os xs.reverse := fun {b g h σ Q} s q =>
  ha s fun v g1 h1 l1 r1 => by
    obtain ⟨a, vs, rfl, h2, h3⟩ := r1
    exact ⟨a, vs, rfl, l1.gh.seq h2, fun p hp => q p _ g1 h1 l1 hp (paired_rev h3)⟩
theorem en_revO {xs : List α} (hx : env[i]? = some (.val V inferInstance (V.ref l))) (ho : os[m]? = some (l, Own.lst K xs)) : EvN (tLstRev K (tVar i)) env os xs.reverse := fun {b g h σ Q} s q =>
  ev_var hx s fun v g1 h1 l1 r1 => by
    cases r1
    obtain ⟨vs, e, p⟩ := own_seq (s.le l1) ho
    exact ⟨l, vs, rfl, SqL.of e, fun p' hp => q p' _ g1 h1 l1 hp (paired_rev p)⟩
end
section
variable {K : PySem.W.Frag} {γ : Type} [iγ : Py K γ] {env : Env K} {os : Os} {b : Bs} {g h : Hp} {σ : L2.St} {D : Ends} {i : Nat}
theorem S0.gone (s : S0 b g h σ env os) (i : Nat) : S0 b g h (σ.set i none) (env.set i .unk) os :=
  { s with
    len := by rw [List.length_set, List.length_set]; exact s.len
    sl := fun j t e => by
      by_cases hj : i = j
      · subst hj
        have hl : i < env.length := by
          have := (List.getElem?_eq_some_iff.mp e).1
          rwa [List.length_set] at this
        rw [List.getElem?_set_self hl] at e
        cases e
        trivial
      · rw [List.getElem?_set_ne hj] at e ⊢
        exact s.sl j t e }
/-- try: f(..) except C as n: .., both ways go on alike -/
theorem st_tryCut {A : List (Slot K) → (γ → Prop) → (Addr → List (Str × Slot K) → Prop) → Prop} {P : γ → Prop} {PE : Addr → List (Str × Slot K) → Prop} {xs : List (Slot K)} {ta : TA} {c : Value} {tsu : Addr → Value → Option Addr → TS} {Wout : WX} (J : Env K → Os → Prop)
    (s : S0 b g h σ env os) (e : EvA ta env os xs) (hA : A xs P PE) (hcls : ∀ C fs, PE C fs → PySem.W.exmOne K (.ref C) c = some true) (k : ∀ env' os' g' h' σ', J env' os' → S0 b g' h' σ' env' os' → D.nx σ' h') (k1 : ∀ z, P z → J env os)
    (kx : ∀ C fs (a d : Addr) g' h' (N : L2.St → Hp → Prop) (R : VK) (B1 B2 : L2.St → Hp → Prop), PE C fs → S0 b g' h' (σ.set i (some (.ref a))) (env.set i (sv (Xcp.mk (fs := fs) a d C))) os → (∀ env' os' g' h' σ', J (env'.set i .unk) os' → S0 b g' h' σ' env' os' → N σ' h') → tsu a (.ref C) (some d) { nx := N, rt := R, bk := B1, ct := B2 } (σ.set i (some (.ref a))) h') :
    tDrop (tCallS (SpE K A) (WE (wAs K c i tsu Wout D)) ta) D σ h :=
  st_tryE s e hA hcls (fun z hz g' h' s' => k _ _ _ _ _ (k1 z hz) s') fun C fs a d g' h' hC s' => kx C fs a d g' h' _ _ _ _ hC s' fun env' os' g2 h2 σ2 hJ s2 => k _ _ _ _ _ hJ (s2.gone i)
end
section
variable {K : PySem.W.Frag} {α : Type} [iα : Py K α] {env : Env K} {os : Os} {b : Bs} {g h : Hp} {σ : L2.St} {D : Ends} {i j m : Nat} {te : TE} {l : Addr}
/-- y = x.pop(e) -/
theorem st_setPopW {xs : List α} {PI : Int → Prop} (d : α) (s : S0 b g h σ env os) (hx : env[i]? = some (.val V inferInstance (V.ref l))) (ho : os[m]? = some (l, Own.lst K xs)) (e : EvW te env os PI) (hi : ∀ n, PI n → 0 ≤ n ∧ n < xs.length ∧ n < 2 ^ 63)
    (k : ∀ n, PI n → ∀ v g' h', S0 b g' h' (σ.set j (some v)) (env.set j (sv (xs.getD n.toNat d))) (os.set m (l, Own.lst K (xs.eraseIdx n.toNat))) → D.nx (σ.set j (some v)) h') : tAsg (tBM K "list" rPopAt (tVar i) (tCons te tNil)) (gName j) D σ h := by
  unfold tAsg tBM
  refine ev_var hx s fun v g1 h1 l1 r1 => ?_
  cases r1
  have s1 := s.le l1
  obtain ⟨n1, o, e1, vs, rfl, p1⟩ := s1.own _ (List.mem_of_getElem? ho)
  refine ⟨.inl ⟨rfl, vs, SqL.of e1⟩, e.go s1 fun v n g2 h2 px s2 l2 r2 => ?_⟩
  obtain ⟨n2, o, e2, ws, rfl, p2⟩ := s2.own _ (List.mem_of_getElem? ho)
  cases r2
  have hn := hi n px
  have hl := p2.length
  have hw : n.toNat < ws.length := by omega
  obtain ⟨y, hy, ry⟩ := paired_getL p2 (List.getElem?_eq_getElem hw)
  have hd : xs.getD n.toNat d = y := by rw [List.getD_eq_getElem?_getD, hy]; rfl
  exact ⟨l, ws, n, n.toNat, ws[n.toNat], rfl, rfl, e2, by omega, hn.2.2, (by unfold seqIndex?; simp only [if_neg (show ¬ n < 0 by omega)]; split <;> first | rfl | (exfalso; simp at *; omega)), List.getElem?_eq_getElem _,
    k n px _ g2 _ ((s2.put (w' := Own.lst K (xs.eraseIdx n.toNat)) ho ⟨_, rfl, paired_erase p2 _⟩).set ⟨_, rfl, by rw [hd]; exact ry⟩)⟩
end
theorem ev_unS {K : PySem.W.Frag} {α : Type} [iα : Py K α] {env : Env K} {os : Os} {te : TE} {x : α} (h : Ev te env os (some x)) : Ev te env os x := fun {b g h' σ Q} s q => h s fun v g1 h1 l1 r1 => q v g1 h1 l1 r1.2
/-! ### displays with effects -/
section
variable {K : PySem.W.Frag} {α β : Type} [iα : Py K α] [iβ : Py K β] {env : Env K} {os : Os} {ta tb : TE} {tr : TA}
structure EvLW (ta : TA) (env : Env K) (os : Os) {α : Type} [i : Py K α] (P : List α → Prop) : Prop where
  run : ∀ {b : Bs} {g h : Hp} {σ : L2.St} {os2 : Os} {Q : List V → Hp → Prop}, S0 b g h σ env (os ++ os2) → (∀ vs xs g' h', P xs → S0 b g' h' σ env (os ++ os2) → Same g g' → Paired (i.R g') vs xs → Q vs h') → ta σ h Q
theorem elw_nil : EvLW tNil env os (fun xs : List α => xs = []) := .mk fun {b g h σ os2 Q} s q => q [] [] g h rfl s (Same.refl _) .nil
theorem elw_cons {P : α → Prop} {P' : List α → Prop} (h1 : EvW ta env os P) (h2 : EvLW tr env os P') : EvLW (tCons ta tr) env os (fun zs : List α => ∃ x ys, P x ∧ P' ys ∧ zs = x :: ys) := .mk fun {b g h σ os2 Q} s q =>
  h1.run s fun v x g1 h1' p1 s1 e1 r1 => h2.run s1 fun vs ys g2 h2' p2 s2 e2 r2 => q (v :: vs) (x :: ys) g2 h2' ⟨x, ys, p1, p2, rfl⟩ s2 (e1.trans e2) (.cons (iα.mono e2 r1) r2)
theorem EvLW.imp {P P' : List α → Prop} (e : EvLW tr env os P) (hp : ∀ x, P x → P' x) : EvLW tr env os P' := .mk fun {b g h σ os2 Q} s q => e.run s fun v x g' h' p => q v x g' h' (hp x p)
theorem EvL.w {xs : List α} (e : EvL tr env os xs) : EvLW tr env os (fun ys => ys = xs) := .mk fun {b g h σ os2 Q} s q => e s.drop fun vs g' h' l r => q vs xs g' h' rfl (s.le l) l.gg r
theorem ew_tupL {P : List α → Prop} (h : EvLW tr env os P) (hl : ∀ xs, P xs → xs.length ≤ 100000) : EvW (tTup tr) env os (fun t : Tup α => P t.l) := .mk fun {b g h' σ os2 Q} s q =>
  h.run s fun vs xs g1 h1 p1 s1 e1 r1 => ⟨by rw [r1.length]; exact Nat.le_trans (hl xs p1) (by decide), fun p hp => by
    have le := Le.laid s1.gh hp (o := .tup vs)
    exact q _ ⟨xs⟩ (upd g1 p (.tup vs)) _ p1 (s1.le le) (e1.trans le.gg) ⟨p, vs, rfl, upd_same, pr_mono le.gg r1⟩⟩
theorem enw_lstL {P : List α → Prop} (h : EvLW tr env os P) (hl : ∀ xs, P xs → xs.length ≤ 100000) : EvNW (tLst tr) env os P := .mk fun {b g h' σ os2 Q} s q =>
  h.run s fun vs xs g1 h1 p1 s1 e1 r1 => ⟨by rw [r1.length]; exact Nat.le_trans (hl xs p1) (by decide), fun p hp => q p vs xs g1 h1 p1 s1 e1 hp r1⟩
/-- a kept list + a new one -/
theorem enw_catS {xs : SL α} {P : List α → Prop} (ha : Ev ta env os xs) (hb : EvNW tb env os P) (hl : ∀ ys, P ys → xs.l.length + ys.length ≤ 1000000) : EvNW (tOp rCat ta tb) env os (fun zs => ∃ ys, P ys ∧ zs = xs.l ++ ys) := .mk fun {b g h' σ os2 Q} s q =>
  ha s.drop fun v g1 h1 l1 r1 => hb.run (s.le l1) fun l2 ws ys g2 h2 p2 s2 e2 hn r2 => by
    obtain ⟨a, vs, rfl, h3, h4⟩ := r1
    have le := Le.laid s2.gh hn (o := .lst ws)
    have h5 := s2.gh _ _ (e2 _ _ h3)
    have hne : a ≠ l2 := ne_of_none h5 hn
    refine ⟨a, l2, vs, ws, rfl, rfl, by rw [upd_ne hne]; exact h5, upd_same, ?_, fun p hp => ?_⟩
    · have := hl ys p2
      exact Nat.le_trans (m := 1000000) (by rw [h4.length, r2.length]; exact this) (by decide)
    · exact q p (vs ++ ws) (xs.l ++ ys) _ _ ⟨ys, p2, rfl⟩ (s2.le le) (l1.gg.trans (e2.trans le.gg)) hp (paired_append (pr_mono (e2.trans le.gg) h4) (pr_mono le.gg r2))
end
end Lw
namespace K14
open PySem PySem.Spec PyProof.Rows L2 Lw RZ
variable {P : Program} {w : World} {K : PySem.W.Frag} {mg : Str → Option Value} {base : Heap}
/-- .. its list is the caller's from then on -/
def a_greatW (K : PySem.W.Frag) : List (Slot K) → Os → (V → Os → Prop) → Prop := fun xs os P => ∃ (found : List (Tup Int)) (m : Nat) (B : Int), xs = [sv found] ∧ os = [] ∧
  (m ≤ 1000 ∧ (∀ t ∈ found, t.l.length = m ∧ TS.Bd B t.l) ∧ found.length ≤ 5000 ∧ (found.Pairwise fun a b => TS.code B a.l < TS.code B b.l) ∧ (greatF found).length < 64 ∧ (m = 0 → found.length ≤ 1)) ∧ ∀ l2, P (V.ref l2) [(l2, Own.lst K (greatF found))]
theorem ok_law_greatestW (E : FX K mg) : Cal P w K mg base "_law_greatest" 3 ["found"] (SpW K (a_greatW K)) := by
  refine E.cal 21 23 (st := topS 27) rfl rfl (fun _ _ _ _ _ _ us hl => match us, hl with | [_], _ => rfl) fun f fd F => okWD F sc_law_greatest (fun xs os P' h => ?_) (fun cdv Ar outer s0 H0 E0 hr xs os P' h => ?_)
  · obtain ⟨_, _, _, rfl, _⟩ := h; rfl
  · obtain ⟨found, m, B, rfl, rfl, ⟨hm, hl, hz, hpw, h64, h0⟩, hP⟩ := h
    refine ⟨_, (pss_cons (ps_set (i := 1) sc_law_greatest.nd rfl (.inl rfl) (pe_lst pa_nil))
    (pss_cons (ps_for PassesOwn.never rfl (pi_reversed (by rfl) (E.free 39) (pa_cons (pv 0) pa_nil)) (pg_name (i := 2) sc_law_greatest.nd rfl (.inl rfl))
      (pss_one (ps_if (pt_not (pt_val (pe_c (ok_law_below_one E) (hr.mono (by decide)) rfl (pa_cons (pv 1) (pa_cons (pv 2) pa_nil))))) (pss_one (ps_expr (pe_bm PySem.F.plainAttrs_list PySem.F.slot_list_append PySem.F.type_list_append mt_append (pv 1) (pa_cons (pv 2) pa_nil)))) pss_nil)))
    (pss_one (ps_ret (pe_callB (cr_sortG m B) (by rfl) (E.free 44) (by decide +kernel) (pa_cons (pv 1) pa_nil)))))), fun g σ Q s fin => ?_⟩
    -- ends = []
    refine st_setN s (en_lst (el_nil (α := Tup Int)) (by decide)) (fun l g h s => ?_)
    -- for levels in reversed(found):
    refine st_for_rev tgt_name s (ev_var rfl) (fun n e o => ∃ s2 : Slot K, e = [sv found, sv (V.ref l), s2] ∧ o = [(l, Own.lst K (greE (found.reverse.take n)))]) ⟨_, rfl, rfl⟩ (fun n x hx c hls e o g h σ N hI back s hN => ?_) (fun e o g h σ hI s => ?_)
    · obtain ⟨s2, rfl, rfl⟩ := hI
      have hxl := hl x (List.mem_reverse.mp (List.mem_of_getElem? hx))
      have hsub := gre_sub (found.reverse.take n)
      have hlen := hsub.length_le
      rw [List.length_take, List.length_reverse] at hlen
      have hmem : ∀ t ∈ greE (found.reverse.take n), t ∈ found := fun t ht => List.mem_reverse.mp (List.mem_of_mem_take (hsub.subset ht))
      have hstep : greE (found.reverse.take (n + 1)) = greS (greE (found.reverse.take n)) x := by unfold greE; rw [take_foldl hx]
      -- if not _law_below_one(ends, levels):
      refine st_if s (et_not (et_B (ev_callO (m := 0) rfl rfl (ev_var rfl) ⟨_, _, rfl, ⟨by rw [hxl.1]; exact hm, fun t ht => by rw [(hl t (hmem t ht)).1, hxl.1]⟩, rfl⟩))) (fun hc g h s => ?_) (fun hc g h s => ?_)
      · have hc' : beF (greE (found.reverse.take n)) x.l = false := by simpa using hc
        -- ends.append(levels)
        refine st_append (m := 0) s rfl rfl (Nat.lt_of_le_of_lt (show _ ≤ 5000 by omega) (by decide)) (ev_var rfl) (fun g h s => ?_)
        exact hN _ _ _ _ _ ⟨_, rfl, by rw [hstep]; unfold greS; rw [if_neg (by rw [hc']; exact Bool.false_ne_true)]; rfl⟩ s
      · have hc' : beF (greE (found.reverse.take n)) x.l = true := by simpa using hc
        exact hN _ _ _ _ _ ⟨_, rfl, by rw [hstep]; unfold greS; rw [if_pos hc']⟩ s
    · obtain ⟨s2, rfl, rfl⟩ := hI
      dsimp only
      rw [← List.length_reverse, List.take_length] at s
      have hg : greE found.reverse = (greatF found).reverse := by unfold greatF; rw [List.reverse_reverse]
      have hmem : ∀ t ∈ greE found.reverse, t ∈ found := fun t ht => List.mem_reverse.mp ((gre_sub found.reverse).subset ht)
      have hlen : (greE found.reverse).length = (greatF found).length := by rw [hg, List.length_reverse]
      -- return sorted(ends)
      refine st_retN s (en_sortO (m := 0) (zs := greatF found) rfl rfl (by rw [hlen]; exact h64) (fun x hx => hl x (hmem x hx)) (by rw [hg]; exact (List.reverse_perm _).symm) (hpw.sublist (great_sub found)) (fun z => by rw [hlen]; exact Nat.le_trans (great_sub found).length_le (h0 z))) (fun l2 g h s => ?_)
      exact fin _ _ g h _ _ _ _ (hP l2) (fun p hp => by rw [List.mem_singleton] at hp; rw [hp]; simp) s (by simp) rfl

def a_part (K : PySem.W.Frag) : List (Slot K) → Os → (List (List (Tup Int)) → Os → Prop) → Prop := fun xs os P => ∃ (l : Addr) (ts : Tup Int), xs = [sv (V.ref l), sv ts, sv (sT ts.l)] ∧ os = [(l, Bag K)] ∧ TopsOk ts ∧
  ∀ br kp : List (Tup Int), (br.length ≤ 5000 ∧ kp.length ≤ 5000 ∧ (∀ t ∈ br, InS ts.l t.l) ∧ ∀ t ∈ kp, InS ts.l t.l) → P [br, kp] [(l, Bag K)]
theorem sc_law_part : FnScope ["bag", "tops", "settings", "breakers", "way", "keepers", "levels", "order"] ["bag", "tops", "settings"] (defScope (topS 34)) := ⟨rfl, rfl, rfl, by decide +kernel, rfl, by decide +kernel, by decide +kernel⟩

theorem ok_law_part (E : FX K mg) : Cal P w K mg base "_law_part" 4 ["bag", "tops", "settings"] (SpW K (a_part K)) := by
  refine E.cal 28 30 (st := topS 34) rfl rfl (fun _ _ _ _ _ _ us hl => match us, hl with | [_, _, _], _ => rfl) fun f fd F => okWD F sc_law_part (fun xs os P' h => ?_) (fun cdv Ar outer s0 H0 E0 hr xs os P' h => ?_)
  · obtain ⟨_, _, rfl, _⟩ := h; rfl
  · obtain ⟨l, ts, rfl, rfl, ok, hP⟩ := h
    refine ⟨_, (pss_cons (ps_set (i := 3) sc_law_part.nd rfl (.inr rfl) (pe_c (ok_law_told E) (hr.mono (by decide)) rfl (pa_cons (pv 0) (pa_cons (pv 1) pa_nil))))
    (pss_cons (ps_set (i := 4) sc_law_part.nd rfl (.inl rfl) (pe_c (ok_law_take E) (hr.mono (by decide)) rfl (pa_cons (pv 0) (pa_cons pe_int pa_nil))))
    (pss_cons (ps_if (pt_cmpR op_lt (pv 4) pe_int (nomark _)) (pss_one (ps_ret (pe_lst (pa_cons (pv 3) (pa_cons (pe_c (ok_law_told E) (hr.mono (by decide)) rfl (pa_cons (pv 0) (pa_cons (pv 1) pa_nil))) pa_nil))))) pss_nil)
    (pss_cons (ps_set (i := 5) sc_law_part.nd rfl (.inl rfl) (pe_c (ok_law_greatestW E) (hr.mono (by decide)) rfl (pa_cons (pe_lc (own := [("levels", 6)]) (g := gName 6) rfl sc_law_part.nd (pi_listK K (pv 2)) (blkOk_by (N := ["bag", "tops", "settings", "breakers", "way", "keepers", "levels", "order"]) (sc := defScope (topS 34)) (own := [("levels", 6)]) (by decide +kernel)) (fun _ _ _ _ _ => (pg_name (i := 6) sc_law_part.nd rfl (Or.inl rfl))) (fun _ _ _ _ _ => (pts_one (pt_not (pt_val (pe_c (ok_law_above_one E) (hr.mono (by decide)) rfl (pa_cons (pv 3) (pa_cons (pv 6) pa_nil))))))) (fun _ _ _ _ _ => (pv 6))) pa_nil)))
    (pss_cons (ps_set (i := 7) sc_law_part.nd rfl (.inl rfl) (pe_c (ok_law_take E) (hr.mono (by decide)) rfl (pa_cons (pv 0) (pa_cons pe_int pa_nil))))
    (pss_cons (ps_if (pt_cmpR op_eq (pv 7) pe_int (nomark _)) (pss_one (ps_set (i := 5) sc_law_part.nd rfl (.inl rfl) (pe_listRev rfl (by rfl) (E.free 45) (by rfl) (E.free 39) (pv 5)))) pss_nil)
    (pss_cons (ps_if (PW.pt (pw_and (pt_cmpR op_eq (pv 4) pe_int (nomark _)) (pw_and1 (pt_cmpR op_gt (pe_callB (len_seqK K) (by rfl) (E.free 46) (by decide +kernel) (pa_cons (pv 5) pa_nil)) pe_int (nomark _))))) (pss_one (ps_expr (pe_bm PySem.F.plainAttrs_list PySem.F.slot_list_pop PySem.F.type_list_pop mt_popAt (pv 5) (pa_cons (pe_c (ok_law_take E) (hr.mono (by decide)) rfl (pa_cons (pv 0) (pa_cons (pe_callB (len_seqK K) (by rfl) (E.free 46) (by decide +kernel) (pa_cons (pv 5) pa_nil)) pa_nil))) pa_nil)))) pss_nil)
    (pss_cons (ps_if (PW.pt (pw_and (pt_cmpR op_eq (pv 4) pe_int (nomark _)) (pw_and1 (pt_cmpR op_gt (pe_callB (len_seqK K) (by rfl) (E.free 46) (by decide +kernel) (pa_cons (pv 3) pa_nil)) pe_int (nomark _))))) (pss_one (ps_expr (pe_bm PySem.F.plainAttrs_list PySem.F.slot_list_pop PySem.F.type_list_pop mt_popAt (pv 3) (pa_cons (pe_c (ok_law_take E) (hr.mono (by decide)) rfl (pa_cons (pv 0) (pa_cons (pe_callB (len_seqK K) (by rfl) (E.free 46) (by decide +kernel) (pa_cons (pv 3) pa_nil)) pa_nil))) pa_nil)))) pss_nil)
    (pss_one (ps_ret (pe_lst (pa_cons (pv 3) (pa_cons (pv 5) pa_nil))))))))))))), fun g σ Q s fin => ?_⟩
    have hin : ∀ x ∈ sT ts.l, InS ts.l x.l := fun x h => mem_sT.mp h
    have hb : ∀ t ∈ ts.l, t < 4096 := fun t h => by have := okT_top ok.t h; omega
    have hsz : ts.l.length ≤ 1000 := by have := ok.2.1; omega
    have hlen : (sT ts.l).length ≤ 5000 := by unfold sT; rw [List.length_map]; have := okT_len ok.t; omega
    have hgre : ∀ p : Tup Int → Bool, ts.l.length ≤ 1000 ∧ (∀ t ∈ (sT ts.l).filter p, t.l.length = ts.l.length ∧ TS.Bd 4096 t.l) ∧ ((sT ts.l).filter p).length ≤ 5000 ∧ (((sT ts.l).filter p).Pairwise fun a b => TS.code 4096 a.l < TS.code 4096 b.l) ∧ (greatF ((sT ts.l).filter p)).length < 64 ∧ (ts.l.length = 0 → ((sT ts.l).filter p).length ≤ 1) := fun p => by
      have hf := List.length_filter_le p (sT ts.l)
      refine ⟨hsz, fun t h => ?_, by omega, (sT_pw hb).sublist List.filter_sublist, great_len ok (by decide) hb, fun z => Nat.le_trans hf ?_⟩
      · have := hin t (List.mem_filter.mp h).1
        exact ⟨this.len, this.bd hb⟩
      · rw [List.eq_nil_of_length_eq_zero z]; exact Nat.le_refl 1
    -- breakers = _law_told(bag, tops)
    refine st_setCW (P := fun z osz => ∃ l2 told, ToldOk ts.l told ∧ z = V.ref l2 ∧ osz = [(l, Bag K), (l2, Own.lst K told)]) [(l, Bag K)] [] s (by simp) (ea_cons (ev_var rfl) (ea_cons (ev_var rfl) ea_nil)) ⟨l, ts, rfl, rfl, ok.t, fun l2 told h => ⟨l2, told, h, rfl, rfl⟩⟩ (fun z osz hz v g h s => ?_)
    obtain ⟨l2, br, hbr, rfl, rfl⟩ := hz
    try dsimp only
    -- way = _law_take(bag, 6)
    refine st_setW s (ew_takeC (m := 0) rfl rfl ev_int ⟨by decide, by decide⟩) (fun way hway v g h s => ?_)
    try dsimp only
    -- if way < 3:
    refine st_if s (et_test (ev_ib (ev_var rfl) ev_int)) (fun hc g h s => ?_) (fun hc g h s => ?_)
    · -- return [breakers, _law_told(bag, tops)]
      obtain ⟨g1, s⟩ := s.freezeW (i := 3) (m := 1) rfl rfl 1 rfl (by decide)
      dsimp only [List.eraseIdx, List.set] at s
      unfold tRet tLst tCons
      refine ev_var (x := br) rfl s fun v1 g2 h2 le2 r2 => ?_
      refine cw_call (P := fun z osz => ∃ l2 told, ToldOk ts.l told ∧ z = V.ref l2 ∧ osz = [(l, Bag K), (l2, Own.lst K told)]) [(l, Bag K)] [] (s.le le2) (by simp) (ea_cons (ev_var rfl) (ea_cons (ev_var rfl) ea_nil)) ⟨l, ts, rfl, rfl, ok.t, fun l2 told h => ⟨l2, told, h, rfl, rfl⟩⟩ (fun v3 z osz g3 h3 hz s3 e3 r3 => ?_)
      obtain ⟨l3, br3, hbr3, rfl, rfl⟩ := hz
      obtain ⟨g4, s4⟩ := (s3.slots (arg2 ((instList (K := K) (α := Tup Int)).mono e3 r2) r3)).freezeW (i := 1) (m := 1) rfl rfl 1 rfl (by decide)
      dsimp only [List.eraseIdx, List.set] at s4
      refine ⟨by show 2 ≤ sizeLine; decide, fun p hp => ?_⟩
      obtain ⟨w1, ew1, q1⟩ := s4.sl 0 _ rfl
      obtain ⟨w2, ew2, q2⟩ := s4.sl 1 _ rfl
      cases ew1
      cases ew2
      have le5 := Le.laid s4.gh hp (o := .lst [v1, v3])
      exact fin _ _ _ _ _ _ _ _ (hP br br3 ⟨by have := hbr.1; omega, by have := hbr3.1; omega, hbr.2, hbr3.2⟩) (fun p hp => hp) (s4.le le5) (by simp) ⟨p, _, rfl, .inl (.inl upd_same), .cons ((instList (K := K) (α := Tup Int)).mono le5.gg q1) (.cons ((instList (K := K) (α := Tup Int)).mono le5.gg q2) .nil)⟩
    · dsimp only [tNext]
      have hfl : ∀ x ∈ (sT ts.l).filter (fun x => !abF br x.l), x ∈ sT ts.l := fun x hx => (List.mem_filter.mp hx).1
      -- keepers = _law_greatest([levels for levels in settings if not _law_above_one(breakers, levels)])
      refine st_setCW (P := fun z osz => ∃ l2, z = V.ref l2 ∧ osz = [(l2, Own.lst K (greatF ((sT ts.l).filter fun x => !abF br x.l)))]) [] [(l, Bag K), (l2, Own.lst K br)] s (by simp)
        (ea_cons (EvN.ev (en_lcL (m := fun x : Tup Int => x) tgt_name (ev_var rfl) (fun x hx => (et_not (et_B (ev_callO (m := 1) rfl rfl (ev_var rfl) ⟨_, _, rfl, ⟨by rw [(hin x hx).len]; exact hsz, fun t ht => (hbr.2 t ht).len.trans (hin x hx).len.symm⟩, rfl⟩)))) (fun x hx _ => (ev_var rfl)) (by omega))) ea_nil)
        ⟨_, ts.l.length, 4096, rfl, rfl, by rw [List.map_id']; exact hgre _, fun l2 => ⟨l2, rfl, by rw [List.map_id']; rfl⟩⟩ (fun z osz hz v g h s => ?_)
      obtain ⟨l3, rfl, rfl⟩ := hz
      have s := s.perm (os' := [(l, Bag K), (l2, Own.lst K br), (l3, Own.lst K (greatF ((sT ts.l).filter fun x => !abF br x.l)))]) (by
        show [(l3, _), (l, _), (l2, _)].Perm _
        exact (List.Perm.swap _ _ _).trans ((List.Perm.swap _ _ _).cons _))
      dsimp only at s
      -- order = _law_take(bag, 2)
      refine st_setW s (ew_takeC (m := 0) rfl rfl ev_int ⟨by decide, by decide⟩) (fun order ho v g h s => ?_)
      try dsimp only
      have hkp : ∀ t ∈ greatF ((sT ts.l).filter fun x => !abF br x.l), InS ts.l t.l := fun t ht => hin t (hfl t ((great_sub _).subset ht))
      have hkl := (great_sub ((sT ts.l).filter fun x => !abF br x.l)).length_le
      have hfl2 := List.length_filter_le (fun x : Tup Int => !abF br x.l) (sT ts.l)
      -- if order == 1:
      refine st_if_cut (fun e o => ∃ (br kp : List (Tup Int)) (la lb : Addr) (s6 s7 : Slot K), (br.length ≤ 5000 ∧ kp.length ≤ 5000 ∧ (∀ t ∈ br, InS ts.l t.l) ∧ ∀ t ∈ kp, InS ts.l t.l) ∧ e = [sv (V.ref l), sv ts, sv (sT ts.l), sv (V.ref la), sv way, sv (V.ref lb), s6, s7] ∧ o = [(l, Bag K), (la, Own.lst K br), (lb, Own.lst K kp)]) s (et_test (ev_eqI (ev_var rfl) ev_int)) (fun e o g h σ hJ s => ?_) (fun _ g h N s hN => ?_) (fun _ g h N s hN => ?_)
      · obtain ⟨br, kp, la, lb, s6, s7, ⟨hb1, hk1, hb2, hk2⟩, rfl, rfl⟩ := hJ
        try dsimp only
        -- if way == 4 and len(keepers) > 0:
        refine st_if_cut (fun e o => ∃ (br kp : List (Tup Int)) (la lb : Addr) (s6 s7 : Slot K), (br.length ≤ 5000 ∧ kp.length ≤ 5000 ∧ (∀ t ∈ br, InS ts.l t.l) ∧ ∀ t ∈ kp, InS ts.l t.l) ∧ e = [sv (V.ref l), sv ts, sv (sT ts.l), sv (V.ref la), sv way, sv (V.ref lb), s6, s7] ∧ o = [(l, Bag K), (la, Own.lst K br), (lb, Own.lst K kp)]) s (et_and (et_test (ev_eqI (ev_var rfl) ev_int)) fun _ => (et_test (ev_ib (ev_lenO (m := 2) rfl rfl) ev_int))) (fun e o g h σ hJ s => ?_) (fun hc g h N s hN => ?_) (fun _ g h N s hN => ?_)
        · clear hb1 hk1 hb2 hk2
          obtain ⟨br, kp, la, lb, s6, s7, ⟨hb1, hk1, hb2, hk2⟩, rfl, rfl⟩ := hJ
          try dsimp only
          -- if way == 5 and len(breakers) > 0:
          refine st_if_cut (fun e o => ∃ (br kp : List (Tup Int)) (la lb : Addr) (s6 s7 : Slot K), (br.length ≤ 5000 ∧ kp.length ≤ 5000 ∧ (∀ t ∈ br, InS ts.l t.l) ∧ ∀ t ∈ kp, InS ts.l t.l) ∧ e = [sv (V.ref l), sv ts, sv (sT ts.l), sv (V.ref la), sv way, sv (V.ref lb), s6, s7] ∧ o = [(l, Bag K), (la, Own.lst K br), (lb, Own.lst K kp)]) s (et_and (et_test (ev_eqI (ev_var rfl) ev_int)) fun _ => (et_test (ev_ib (ev_lenO (m := 1) rfl rfl) ev_int))) (fun e o g h σ hJ s => ?_) (fun hc g h N s hN => ?_) (fun _ g h N s hN => ?_)
          · clear hb1 hk1 hb2 hk2
            obtain ⟨br, kp, la, lb, s6, s7, ⟨hb1, hk1, hb2, hk2⟩, rfl, rfl⟩ := hJ
            -- return [breakers, keepers]
            obtain ⟨g1, s⟩ := s.freezeW (i := 3) (m := 1) rfl rfl 1 rfl (by decide)
            dsimp only [List.eraseIdx, List.set] at s
            obtain ⟨g2, s⟩ := s.freezeW (i := 5) (m := 1) rfl rfl 1 rfl (by decide)
            dsimp only [List.eraseIdx, List.set] at s
            refine st_ret s (ev_lstL (el_cons (ev_var rfl) (el_cons (ev_var rfl) el_nil))) ?_
            exact fun v g h s r => fin v _ g h _ _ _ _ (hP br kp ⟨hb1, hk1, hb2, hk2⟩) (fun p hp => hp) s (by simp) r
          · have hc2 := of_decide_eq_true (Bool.and_eq_true_iff.mp hc).2
            refine st_popW (m := 1) s rfl rfl (ew_takeC (m := 0) rfl rfl (ev_lenO (m := 1) rfl rfl) ⟨hc2, by omega⟩) (fun n hn => ⟨hn.1, hn.2, by omega⟩) (fun n hn g h s => ?_)
            exact hN _ _ _ _ _ ⟨_, _, _, _, _, _, ⟨Nat.le_trans (List.length_eraseIdx_le _ _) hb1, hk1, fun t ht => hb2 t (List.mem_of_mem_eraseIdx ht), hk2⟩, rfl, rfl⟩ s
          · exact hN _ _ _ _ _ ⟨_, _, _, _, _, _, ⟨hb1, hk1, hb2, hk2⟩, rfl, rfl⟩ s
        · have hc2 := of_decide_eq_true (Bool.and_eq_true_iff.mp hc).2
          refine st_popW (m := 2) s rfl rfl (ew_takeC (m := 0) rfl rfl (ev_lenO (m := 2) rfl rfl) ⟨hc2, by omega⟩) (fun n hn => ⟨hn.1, hn.2, by omega⟩) (fun n hn g h s => ?_)
          exact hN _ _ _ _ _ ⟨_, _, _, _, _, _, ⟨hb1, Nat.le_trans (List.length_eraseIdx_le _ _) hk1, hb2, fun t ht => hk2 t (List.mem_of_mem_eraseIdx ht)⟩, rfl, rfl⟩ s
        · exact hN _ _ _ _ _ ⟨_, _, _, _, _, _, ⟨hb1, hk1, hb2, hk2⟩, rfl, rfl⟩ s
      · -- keepers = list(reversed(keepers))
        refine st_setN s (en_revO (m := 2) rfl rfl) (fun l4 g h s => ?_)
        have s := s.perm (os' := [(l, Bag K), (l2, Own.lst K br), (l4, Own.lst K (greatF ((sT ts.l).filter fun x => !abF br x.l)).reverse)] ++ [(l3, Own.lst K (greatF ((sT ts.l).filter fun x => !abF br x.l)))]) (by
          show [(l, _), (l2, _), (l3, _), (l4, _)].Perm [(l, _), (l2, _), (l4, _), (l3, _)]
          exact ((List.Perm.swap _ _ _).cons _).cons _)
        have s := s.drop
        exact hN _ _ _ _ _ ⟨_, _, _, _, _, _, ⟨by have := hbr.1; omega, by rw [List.length_reverse]; omega, hbr.2, fun t ht => hkp t (List.mem_reverse.mp ht)⟩, rfl, rfl⟩ s
      · exact hN _ _ _ _ _ ⟨_, _, _, _, _, _, ⟨by have := hbr.1; omega, by omega, hbr.2, hkp⟩, rfl, rfl⟩ s
end K14
namespace K14
open PySem PySem.Spec PyProof.Rows L2 L2H Lw RZ
variable {P : Program} {w : World} {K : PySem.W.Frag} {mg : Str → Option Value} {base : Heap}
theorem same_deadH (E : FX K mg) : CalH P w K mg base "_law_same" 0 ["told", "due"] (fun _ _ _ _ => False) := by
  refine E.f.calH 16 18 (st := topS 22) rfl rfl (fun _ _ _ _ _ _ us hl => match us, hl with | [_, _], _ => rfl) fun f fd F => ⟨fun _ _ _ _ h => h.elim, fun A outer s H args us vs Q E p hr hp ho he hb hv h => h.elim⟩
def a_is (K : PySem.W.Frag) : List (Slot K) → (Bool → Prop) → Prop := fun xs P => a_same K (fun _ : Int => True) xs P ∨ a_same K (fun x : Str => x.cps.all (· < 0x110000) = true) xs P
theorem hot_same_is (E : FX K mg) : CalH P w K mg base "_law_same" 1 ["told", "due"] (SpR K (a_is K)) := by
  refine E.f.calH 16 18 (st := topS 22) rfl rfl (fun _ _ _ _ _ _ us hl => match us, hl with | [_, _], _ => rfl) fun f fd F => okRDH F sc_law_same (fun xs P' h => ?_) (fun cdv Ar outer s0 H0 E0 p hp hr xs P' h => ?_)
  · rcases h with ⟨_, rfl, _⟩ | ⟨_, rfl, _⟩ <;> rfl
  · rcases h with ⟨x, rfl, ok, hP⟩ | ⟨x, rfl, ok, hP⟩
    · refine ⟨_, (pss_cons (ps_if (pt_val (pe_callB (isiK K) (by rfl) (E.free 41) (by decide +kernel) (pa_cons (pv 1) (pa_cons (pe_bltn (v := .ty "tuple") (u := .type "tuple") (by rfl) (E.free 40) (by decide +kernel) rfl) pa_nil)))) (pss_cons (ps_if (PW.pt (pw_or (pt_not (pt_val (pe_callB (isiK K) (by rfl) (E.free 41) (by decide +kernel) (pa_cons (pv 0) (pa_cons (pe_bltn (v := .ty "tuple") (u := .type "tuple") (by rfl) (E.free 40) (by decide +kernel) rfl) pa_nil))))) (pw_or1 (pt_cmpR op_ne (pe_callB (len_seqK K) (by rfl) (E.free 46) (by decide +kernel) (pa_cons (pv 0) pa_nil)) (pe_callB (len_seqK K) (by rfl) (E.free 46) (by decide +kernel) (pa_cons (pv 1) pa_nil)) (nomark _))))) (pss_one (ps_ret pe_bl)) pss_nil)
      (pss_cons (ps_forH PassesOwn.never (hot_of hp) (pi_range1H rfl (E.free 43) (pa_cons (pe_callB (len_seqK K) (by rfl) (E.free 46) (by decide +kernel) (pa_cons (pv 1) pa_nil)) pa_nil)) (pg_name (i := 2) sc_law_same.nd rfl (.inl rfl))
        (pss_one (ps_if (pt_not (pt_val (pe_cH (same_deadH E) (hr.mono (by decide)) (hot_of hp) rfl (pa_cons (pe_ix (ix_tupK K) (pv 0) (pv 2) (fun _ _ => rfl)) (pa_cons (pe_ix (ix_tupK K) (pv 1) (pv 2) (fun _ _ => rfl)) pa_nil))))) (pss_one (ps_ret pe_bl)) pss_nil)))
      (pss_one (ps_ret pe_bl)))) pss_nil)
      (pss_cons (ps_if (pt_val (pe_callB (isiK K) (by rfl) (E.free 41) (by decide +kernel) (pa_cons (pv 1) (pa_cons (pe_bltn (v := .ty "str") (u := .type "str") (by rfl) (E.free 42) (by decide +kernel) rfl) pa_nil)))) (pss_one (ps_ret (pe_and (pe_callB (isiK K) (by rfl) (E.free 41) (by decide +kernel) (pa_cons (pv 0) (pa_cons (pe_bltn (v := .ty "str") (u := .type "str") (by rfl) (E.free 42) (by decide +kernel) rfl) pa_nil))) (pe_one (pe_cmpR (eqDK K (Lw.RoomH.u64 hr)) (pv 0) (pv 1) (nomark _)))))) pss_nil)
      (pss_one (ps_ret (pe_and (pe_callB (isiK K) (by rfl) (E.free 41) (by decide +kernel) (pa_cons (pv 0) (pa_cons (pe_bltn (v := .ty "int") (u := .type "int") (by rfl) (E.free 48) (by decide +kernel) rfl) pa_nil))) (pe_and (pe_not (pe_callB (isiK K) (by rfl) (E.free 41) (by decide +kernel) (pa_cons (pv 0) (pa_cons (pe_bltn (v := .ty "bool") (u := .type "bool") (by rfl) (E.free 52) (by decide +kernel) rfl) pa_nil)))) (pe_one (pe_cmpR (eqDK K (Lw.RoomH.u64 hr)) (pv 0) (pv 1) (nomark _))))))))), fun g σ Q s fin => ?_⟩
      -- if isinstance(due, tuple):
      refine st_if s (et_B (ev_isi (c := false) (x := x) (ev_var rfl))) (fun hc g h s => by cases hc) (fun _ g h s => ?_)
      dsimp only [tNext]
      -- if isinstance(due, str):
      refine st_if s (et_B (ev_isi (c := false) (x := x) (ev_var rfl))) (fun hc g h s => by cases hc) (fun _ g h s => ?_)
      dsimp only [tNext]
      -- return isinstance(told, int) and (not isinstance(told, bool)) and (told == due)
      refine st_ret s (ev_andV (ev_isi (c := true) (x := x) (ev_var rfl)) fun _ => (ev_andV (ev_notV (ev_isi (c := false) (x := x) (ev_var rfl))) fun _ => (ev_eqD (ev_var rfl) (ev_var rfl) decide_eq_true_iff))) ?_
      refine fun v g h s r => fin v true g h _ _ _ hP s ?_
      simpa using r
    · refine ⟨_, (pss_cons (ps_if (pt_val (pe_callB (isiK K) (by rfl) (E.free 41) (by decide +kernel) (pa_cons (pv 1) (pa_cons (pe_bltn (v := .ty "tuple") (u := .type "tuple") (by rfl) (E.free 40) (by decide +kernel) rfl) pa_nil)))) (pss_cons (ps_if (PW.pt (pw_or (pt_not (pt_val (pe_callB (isiK K) (by rfl) (E.free 41) (by decide +kernel) (pa_cons (pv 0) (pa_cons (pe_bltn (v := .ty "tuple") (u := .type "tuple") (by rfl) (E.free 40) (by decide +kernel) rfl) pa_nil))))) (pw_or1 (pt_cmpR op_ne (pe_callB (len_seqK K) (by rfl) (E.free 46) (by decide +kernel) (pa_cons (pv 0) pa_nil)) (pe_callB (len_seqK K) (by rfl) (E.free 46) (by decide +kernel) (pa_cons (pv 1) pa_nil)) (nomark _))))) (pss_one (ps_ret pe_bl)) pss_nil)
      (pss_cons (ps_forH PassesOwn.never (hot_of hp) (pi_range1H rfl (E.free 43) (pa_cons (pe_callB (len_seqK K) (by rfl) (E.free 46) (by decide +kernel) (pa_cons (pv 1) pa_nil)) pa_nil)) (pg_name (i := 2) sc_law_same.nd rfl (.inl rfl))
        (pss_one (ps_if (pt_not (pt_val (pe_cH (same_deadH E) (hr.mono (by decide)) (hot_of hp) rfl (pa_cons (pe_ix (ix_tupK K) (pv 0) (pv 2) (fun _ _ => rfl)) (pa_cons (pe_ix (ix_tupK K) (pv 1) (pv 2) (fun _ _ => rfl)) pa_nil))))) (pss_one (ps_ret pe_bl)) pss_nil)))
      (pss_one (ps_ret pe_bl)))) pss_nil)
      (pss_cons (ps_if (pt_val (pe_callB (isiK K) (by rfl) (E.free 41) (by decide +kernel) (pa_cons (pv 1) (pa_cons (pe_bltn (v := .ty "str") (u := .type "str") (by rfl) (E.free 42) (by decide +kernel) rfl) pa_nil)))) (pss_one (ps_ret (pe_and (pe_callB (isiK K) (by rfl) (E.free 41) (by decide +kernel) (pa_cons (pv 0) (pa_cons (pe_bltn (v := .ty "str") (u := .type "str") (by rfl) (E.free 42) (by decide +kernel) rfl) pa_nil))) (pe_one (pe_cmpR (eqDK K (Lw.RoomH.u64 hr)) (pv 0) (pv 1) (nomark _)))))) pss_nil)
      (pss_one (ps_ret (pe_and (pe_callB (isiK K) (by rfl) (E.free 41) (by decide +kernel) (pa_cons (pv 0) (pa_cons (pe_bltn (v := .ty "int") (u := .type "int") (by rfl) (E.free 48) (by decide +kernel) rfl) pa_nil))) (pe_and (pe_not (pe_callB (isiK K) (by rfl) (E.free 41) (by decide +kernel) (pa_cons (pv 0) (pa_cons (pe_bltn (v := .ty "bool") (u := .type "bool") (by rfl) (E.free 52) (by decide +kernel) rfl) pa_nil)))) (pe_one (pe_cmpR (eqDK K (Lw.RoomH.u64 hr)) (pv 0) (pv 1) (nomark _))))))))), fun g σ Q s fin => ?_⟩
      -- if isinstance(due, tuple):
      refine st_if s (et_B (ev_isi (c := false) (x := x) (ev_var rfl))) (fun hc g h s => by cases hc) (fun _ g h s => ?_)
      dsimp only [tNext]
      -- if isinstance(due, str):
      refine st_if s (et_B (ev_isi (c := true) (x := x) (ev_var rfl))) (fun _ g h s => ?_) (fun hc g h s => by cases hc)
      -- return isinstance(told, str) and told == due
      refine st_ret s (ev_andV (ev_isi (c := true) (x := x) (ev_var rfl)) fun _ => (ev_eqD (ev_var rfl) (ev_var rfl) decide_eq_true_iff (ox := ok) (oy := ok))) ?_
      refine fun v g h s r => fin v true g h _ _ _ hP s ?_
      simpa using r
theorem hot_same_pair (E : FX K mg) : CalH P w K mg base "_law_same" 2 ["told", "due"] (SpR K (a_same K fun x : Str × Int => x.1.cps.all (· < 0x110000) = true)) := by
  refine E.f.calH 16 18 (st := topS 22) rfl rfl (fun _ _ _ _ _ _ us hl => match us, hl with | [_, _], _ => rfl) fun f fd F => okRDH F sc_law_same (fun xs P' h => ?_) (fun cdv Ar outer s0 H0 E0 p hp hr xs P' h => ?_)
  · obtain ⟨_, rfl, _⟩ := h; rfl
  · obtain ⟨x, rfl, ok, hP⟩ := h
    refine ⟨_, (pss_cons (ps_if (pt_val (pe_callB (isiK K) (by rfl) (E.free 41) (by decide +kernel) (pa_cons (pv 1) (pa_cons (pe_bltn (v := .ty "tuple") (u := .type "tuple") (by rfl) (E.free 40) (by decide +kernel) rfl) pa_nil)))) (pss_cons (ps_if (PW.pt (pw_or (pt_not (pt_val (pe_callB (isiK K) (by rfl) (E.free 41) (by decide +kernel) (pa_cons (pv 0) (pa_cons (pe_bltn (v := .ty "tuple") (u := .type "tuple") (by rfl) (E.free 40) (by decide +kernel) rfl) pa_nil))))) (pw_or1 (pt_cmpR op_ne (pe_callB (len_seqK K) (by rfl) (E.free 46) (by decide +kernel) (pa_cons (pv 0) pa_nil)) (pe_callB (len_seqK K) (by rfl) (E.free 46) (by decide +kernel) (pa_cons (pv 1) pa_nil)) (nomark _))))) (pss_one (ps_ret pe_bl)) pss_nil)
    (pss_cons (ps_forH PassesOwn.never (hot_of hp) (pi_range1H rfl (E.free 43) (pa_cons (pe_callB (len_seqK K) (by rfl) (E.free 46) (by decide +kernel) (pa_cons (pv 1) pa_nil)) pa_nil)) (pg_name (i := 2) sc_law_same.nd rfl (.inl rfl))
      (pss_one (ps_if (pt_not (pt_val (pe_cH (hot_same_is E) (hr.mono (by decide)) (hot_of hp) rfl (pa_cons (pe_ix (ix_tupK K) (pv 0) (pv 2) (fun _ _ => rfl)) (pa_cons (pe_ix (ix_tupK K) (pv 1) (pv 2) (fun _ _ => rfl)) pa_nil))))) (pss_one (ps_ret pe_bl)) pss_nil)))
    (pss_one (ps_ret pe_bl)))) pss_nil)
    (pss_cons (ps_if (pt_val (pe_callB (isiK K) (by rfl) (E.free 41) (by decide +kernel) (pa_cons (pv 1) (pa_cons (pe_bltn (v := .ty "str") (u := .type "str") (by rfl) (E.free 42) (by decide +kernel) rfl) pa_nil)))) (pss_one (ps_ret (pe_and (pe_callB (isiK K) (by rfl) (E.free 41) (by decide +kernel) (pa_cons (pv 0) (pa_cons (pe_bltn (v := .ty "str") (u := .type "str") (by rfl) (E.free 42) (by decide +kernel) rfl) pa_nil))) (pe_one (pe_cmpR (eqDK K (Lw.RoomH.u64 hr)) (pv 0) (pv 1) (nomark _)))))) pss_nil)
    (pss_one (ps_ret (pe_and (pe_callB (isiK K) (by rfl) (E.free 41) (by decide +kernel) (pa_cons (pv 0) (pa_cons (pe_bltn (v := .ty "int") (u := .type "int") (by rfl) (E.free 48) (by decide +kernel) rfl) pa_nil))) (pe_and (pe_not (pe_callB (isiK K) (by rfl) (E.free 41) (by decide +kernel) (pa_cons (pv 0) (pa_cons (pe_bltn (v := .ty "bool") (u := .type "bool") (by rfl) (E.free 52) (by decide +kernel) rfl) pa_nil)))) (pe_one (pe_cmpR (eqDK K (Lw.RoomH.u64 hr)) (pv 0) (pv 1) (nomark _))))))))), fun g σ Q s fin => ?_⟩
    -- if isinstance(due, tuple):
    refine st_if s (et_B (ev_isi (c := true) (x := x) (ev_var rfl))) (fun _ g h s => ?_) (fun hc g h s => by cases hc)
    -- if not isinstance(told, tuple) or len(told) != len(due):
    refine st_if s (et_or (et_not (et_B (ev_isi (c := true) (x := x) (ev_var rfl)))) fun _ => (et_test (ev_neI (ev_lenP (x := x) (ev_var rfl)) (ev_lenP (x := x) (ev_var rfl))))) (fun hc g h s => ?_) (fun hc g h s => ?_)
    · simp at hc
    · dsimp only [tNext]
      -- for k in range(len(due)):
      refine st_for_range s (ev_lenP (x := x) (ev_var rfl)) (by decide) (by decide) (fun n e o => ∃ s2 : Slot K, e = [sv x, sv x, s2]) ⟨_, rfl⟩ (fun n hn c hls e o g h σ N hI back s hN => ?_) (fun e o g h σ hI s => ?_)
      · obtain ⟨s2, rfl⟩ := hI
        have hn2 : n = 0 ∨ n = 1 := by have : n < 2 := hn; omega
        -- if not _law_same(told[k], due[k]):
        rcases hn2 with rfl | rfl
        · refine st_if s (et_not (et_B (ev_callS (ea_cons (ev_ixP0v (ev_var rfl) (ev_var rfl) rfl) (ea_cons (ev_ixP0v (ev_var rfl) (ev_var rfl) rfl) ea_nil)) (.inr ⟨_, rfl, ok, rfl⟩)))) (fun hc g h s => ?_) (fun hc g h s => ?_)
          · cases hc
          · exact hN _ _ _ _ _ ⟨_, rfl⟩ s
        · refine st_if s (et_not (et_B (ev_callS (ea_cons (ev_ixP1v (ev_var rfl) (ev_var rfl) rfl) (ea_cons (ev_ixP1v (ev_var rfl) (ev_var rfl) rfl) ea_nil)) (.inl ⟨_, rfl, trivial, rfl⟩)))) (fun hc g h s => ?_) (fun hc g h s => ?_)
          · cases hc
          · exact hN _ _ _ _ _ ⟨_, rfl⟩ s
      · obtain ⟨s2, rfl⟩ := hI
        dsimp only
        -- return True
        refine st_ret s ev_bl ?_
        exact fun v g h s r => fin v true g h _ _ _ hP s r
end K14
namespace K14
open PySem PySem.Spec PyProof.Rows L2 L2H Lw RZ
variable {P : Program} {w : World} {K : PySem.W.Frag} {mg : Str → Option Value} {base : Heap}
def a_ref (K : PySem.W.Frag) : List (Slot K) → (Int → Prop) → Prop := fun xs P => ∃ (ts : Tup Int) (told : Sq (Tup Int)), xs = [sv ts, sv told] ∧ ((∀ t ∈ ts.l, 0 ≤ t) ∧ prodF ts.l < 2 ^ 63 ∧ ts.l.length ≤ 1000 ∧ told.l.length ≤ 5000) ∧ P (if 4096 < prodF ts.l then 3 else 0)
theorem sc_law_refusals : FnScope ["tops", "told", "found", "first", "second", "third"] ["tops", "told"] (defScope (topS 35)) := ⟨rfl, rfl, rfl, by decide +kernel, rfl, by decide +kernel, by decide +kernel⟩
theorem takes0N {X : Cx} : L2N.Takes X (fun _ _ _ _ => False) := fun u s' ⟨_, _, _, _, _, _, _, _, _, _, _, _, _, _, _, _, w⟩ => w.elim
theorem hot_su {X : Cx} {a : Addr} {oe : Obj} {cls : Value} {d : Option Addr} {pn : List (Addr × Obj)} (hz : L2N.Zn cls d oe) (hf : ∃ vs, oe.data = .fields vs) : HotC (X.suite a ((a, oe) :: pn)) :=
  let ⟨vs, hd⟩ := hf
  ⟨(a, oe), ⟨rfl, vs, hd, hz.2.2 vs hd⟩, List.mem_cons_self⟩
theorem ok_law_refusals (E : FX K mg) (hPr : P = PySem.Challenge.pw_planyard_k14_closing_whole) : Cal P w K mg base "_law_refusals" 5 ["tops", "told"] (SpR K (a_ref K)) := by
  refine E.cal 29 31 (st := topS 35) rfl rfl (fun _ _ _ _ _ _ us hl => match us, hl with | [_, _], _ => rfl) fun f fd F => okRD F sc_law_refusals (fun xs P' h => ?_) (fun cdv Ar outer s0 H0 E0 hr xs P' h => ?_)
  · obtain ⟨_, _, rfl, _⟩ := h; rfl
  · obtain ⟨ts, told, rfl, hc, hP⟩ := h
    have XD := E_TooLarge (w := w) (base := base) E hPr
    refine ⟨_, (pss_cons (ps_set (i := 2) sc_law_refusals.nd rfl (.inl rfl) pe_int)
    (pss_cons (L2N.ps_try_as (i := 3) rfl rfl sc_law_refusals.nd rfl rfl ⟨rfl, by decide, .inl XD.gC⟩ takes0N (fun W pn xe tk _ => (pss_one (ps_expr (pe_cT (ok_keepers_of E hPr) (hr.mono (by decide)) tk rfl (pa_cons (pv 0) (pa_cons (pv 1) pa_nil)))))) (fun a oe cls d pn hz hf => (pss_one (ps_set (i := 2) sc_law_refusals.nd rfl (.inl rfl) (pe_op op_add (pv 2) (pe_callTy call_int1 (by rfl) (E.free 48) (by decide +kernel) (pa_cons (pe_cH (hot_same_pair E) ((L2H.roomH_mark hr _).mono (by decide)) (hot_su hz hf) rfl (pa_cons (pe_tup (pa_cons (pe_xf XD.xf (XD.fl "what" (by simp)) (L2N.Zn.zc hz) hf (pv 3)) (pa_cons (pe_xf XD.xf (XD.fl "limit" (by simp)) (L2N.Zn.zc hz) hf (pv 3)) pa_nil))) (pa_cons (pe_tup (pa_cons pe_str (pa_cons pe_int pa_nil))) pa_nil))) pa_nil)))))))
    (pss_cons (L2N.ps_try_as (i := 4) rfl rfl sc_law_refusals.nd rfl rfl ⟨rfl, by decide, .inl XD.gC⟩ takes0N (fun W pn xe tk _ => (pss_one (ps_expr (pe_cT (ok_breakers_of E hPr) (hr.mono (by decide)) tk rfl (pa_cons (pv 0) (pa_cons (pv 1) pa_nil)))))) (fun a oe cls d pn hz hf => (pss_one (ps_set (i := 2) sc_law_refusals.nd rfl (.inl rfl) (pe_op op_add (pv 2) (pe_callTy call_int1 (by rfl) (E.free 48) (by decide +kernel) (pa_cons (pe_cH (hot_same_pair E) ((L2H.roomH_mark hr _).mono (by decide)) (hot_su hz hf) rfl (pa_cons (pe_tup (pa_cons (pe_xf XD.xf (XD.fl "what" (by simp)) (L2N.Zn.zc hz) hf (pv 4)) (pa_cons (pe_xf XD.xf (XD.fl "limit" (by simp)) (L2N.Zn.zc hz) hf (pv 4)) pa_nil))) (pa_cons (pe_tup (pa_cons pe_str (pa_cons pe_int pa_nil))) pa_nil))) pa_nil)))))))
    (pss_cons (L2N.ps_try_as (i := 5) rfl rfl sc_law_refusals.nd rfl rfl ⟨rfl, by decide, .inl XD.gC⟩ takes0N (fun W pn xe tk _ => (pss_one (ps_expr (pe_cT (ok_uncovered E hPr) (hr.mono (by decide)) tk rfl (pa_cons (pv 0) (pa_cons (pv 1) (pa_cons (pv 1) pa_nil))))))) (fun a oe cls d pn hz hf => (pss_one (ps_set (i := 2) sc_law_refusals.nd rfl (.inl rfl) (pe_op op_add (pv 2) (pe_callTy call_int1 (by rfl) (E.free 48) (by decide +kernel) (pa_cons (pe_cH (hot_same_pair E) ((L2H.roomH_mark hr _).mono (by decide)) (hot_su hz hf) rfl (pa_cons (pe_tup (pa_cons (pe_xf XD.xf (XD.fl "what" (by simp)) (L2N.Zn.zc hz) hf (pv 5)) (pa_cons (pe_xf XD.xf (XD.fl "limit" (by simp)) (L2N.Zn.zc hz) hf (pv 5)) pa_nil))) (pa_cons (pe_tup (pa_cons pe_str (pa_cons pe_int pa_nil))) pa_nil))) pa_nil)))))))
    (pss_one (ps_ret (pv 2))))))), fun g σ Q s fin => ?_⟩
    -- found = 0
    refine st_set (x := (if 4096 < prodF ts.l then (0 : Int) else 0)) s (by rw [ite_self]; exact ev_int) (fun v g h s => ?_)

    -- try 1
    try dsimp only
    refine st_tryCut (i := 3) (γ := Tup (Tup Int)) (PE := fun C fs => 4096 < prodF ts.l ∧ C = inC K "TooLarge" ∧ fs = tooL K) (P := fun _ => ¬ (4096 < prodF ts.l)) (fun e o => ∃ s3 s4 s5 : Slot K, e = [sv ts, sv told, sv (if 4096 < prodF ts.l then (1 : Int) else 0), s3, s4, s5] ∧ o = []) s (ea_cons (ev_var rfl) (ea_cons (ev_var rfl) ea_nil)) ⟨ts, told, rfl, hc, fun z => (by show ¬ _; omega), fun z => ⟨z, rfl, rfl⟩⟩ (fun C fs hC => by rw [hC.2.1]; exact XD.te) (fun e o g h σ hJ s => ?_) (fun z hz => ⟨_, _, _, by first | (rw [if_neg hz, if_neg hz]; done) | (rw [if_neg hz, if_neg hz]; rfl), rfl⟩) (fun C fs a d g h N R B1 B2 hC s hN => ?_)
    rotate_left
    · obtain ⟨hC1, rfl, rfl⟩ := hC
      refine st_set s (ev_i2 (ev_var rfl) (ev_intB (ev_callS (z := true) (ea_cons (ev_pair (ev_xf (i := 3) (x := Xcp.mk (fs := tooL K) a d (inC K "TooLarge")) (y := ("settings" : Str)) rfl rfl) (ev_xf (i := 3) (x := Xcp.mk (fs := tooL K) a d (inC K "TooLarge")) (y := (4096 : Int)) rfl rfl)) (ea_cons (ev_pair ev_str ev_int) ea_nil)) ⟨_, rfl, by decide +kernel, rfl⟩))) (fun v g h s => ?_)
      exact hN _ _ _ _ _ ⟨_, _, _, by first | (rw [if_pos hC1, if_pos hC1]; done) | (rw [if_pos hC1, if_pos hC1]; rfl), rfl⟩ s
    obtain ⟨s3, s4, s5, rfl, rfl⟩ := hJ
    -- try 2
    try dsimp only
    refine st_tryCut (i := 4) (γ := Tup (Tup Int)) (PE := fun C fs => 4096 < prodF ts.l ∧ C = inC K "TooLarge" ∧ fs = tooL K) (P := fun _ => ¬ (4096 < prodF ts.l)) (fun e o => ∃ s3 s4 s5 : Slot K, e = [sv ts, sv told, sv (if 4096 < prodF ts.l then (2 : Int) else 0), s3, s4, s5] ∧ o = []) s (ea_cons (ev_var rfl) (ea_cons (ev_var rfl) ea_nil)) ⟨ts, told, rfl, hc, fun z => (by show ¬ _; omega), fun z => ⟨z, rfl, rfl⟩⟩ (fun C fs hC => by rw [hC.2.1]; exact XD.te) (fun e o g h σ hJ s => ?_) (fun z hz => ⟨_, _, _, by first | (rw [if_neg hz, if_neg hz]; done) | (rw [if_neg hz, if_neg hz]; rfl), rfl⟩) (fun C fs a d g h N R B1 B2 hC s hN => ?_)
    rotate_left
    · obtain ⟨hC1, rfl, rfl⟩ := hC
      refine st_set s (ev_i2 (ev_var rfl) (ev_intB (ev_callS (z := true) (ea_cons (ev_pair (ev_xf (i := 4) (x := Xcp.mk (fs := tooL K) a d (inC K "TooLarge")) (y := ("settings" : Str)) rfl rfl) (ev_xf (i := 4) (x := Xcp.mk (fs := tooL K) a d (inC K "TooLarge")) (y := (4096 : Int)) rfl rfl)) (ea_cons (ev_pair ev_str ev_int) ea_nil)) ⟨_, rfl, by decide +kernel, rfl⟩))) (fun v g h s => ?_)
      exact hN _ _ _ _ _ ⟨_, _, _, by first | (rw [if_pos hC1, if_pos hC1]; done) | (rw [if_pos hC1, if_pos hC1]; rfl), rfl⟩ s
    obtain ⟨s3, s4, s5, rfl, rfl⟩ := hJ
    -- try 3
    try dsimp only
    refine st_tryCut (i := 5) (γ := Option (Tup Int)) (PE := fun C fs => 4096 < prodF ts.l ∧ C = inC K "TooLarge" ∧ fs = tooL K) (P := fun _ => ¬ (4096 < prodF ts.l)) (fun e o => ∃ s3 s4 s5 : Slot K, e = [sv ts, sv told, sv (if 4096 < prodF ts.l then (3 : Int) else 0), s3, s4, s5] ∧ o = []) s (ea_cons (ev_var rfl) (ea_cons (ev_var rfl) (ea_cons (ev_var rfl) ea_nil))) ⟨ts, told, told, rfl, ⟨hc.1, hc.2.1, hc.2.2.1, hc.2.2.2, hc.2.2.2⟩, fun z => (by show ¬ _; omega), fun z => ⟨z, rfl, rfl⟩⟩ (fun C fs hC => by rw [hC.2.1]; exact XD.te) (fun e o g h σ hJ s => ?_) (fun z hz => ⟨_, _, _, by first | (rw [if_neg hz, if_neg hz]; done) | (rw [if_neg hz, if_neg hz]; rfl), rfl⟩) (fun C fs a d g h N R B1 B2 hC s hN => ?_)
    rotate_left
    · obtain ⟨hC1, rfl, rfl⟩ := hC
      refine st_set s (ev_i2 (ev_var rfl) (ev_intB (ev_callS (z := true) (ea_cons (ev_pair (ev_xf (i := 5) (x := Xcp.mk (fs := tooL K) a d (inC K "TooLarge")) (y := ("settings" : Str)) rfl rfl) (ev_xf (i := 5) (x := Xcp.mk (fs := tooL K) a d (inC K "TooLarge")) (y := (4096 : Int)) rfl rfl)) (ea_cons (ev_pair ev_str ev_int) ea_nil)) ⟨_, rfl, by decide +kernel, rfl⟩))) (fun v g h s => ?_)
      exact hN _ _ _ _ _ ⟨_, _, _, by first | (rw [if_pos hC1, if_pos hC1]; done) | (rw [if_pos hC1, if_pos hC1]; rfl), rfl⟩ s
    obtain ⟨s3, s4, s5, rfl, rfl⟩ := hJ
    dsimp only
    refine st_ret s (ev_var rfl) ?_
    exact fun v g h s r => fin v _ g h _ _ _ hP s r
end K14
namespace K14
open PySem PySem.Spec PyProof.Rows L2 L2H Lw RZ
/-! ### units and lowered tops -/
def zerS (ts : List Int) : List Int := ts.map fun _ => 0
def movS (ts : List Int) : List Int := (upto ts.length).filter fun k => decide (ts.getD k.toNat 0 > 0)
def unS (ts : List Int) (k : Int) : Tup Int := ⟨(zerS ts).set k.toNat ((zerS ts).getD k.toNat 0 + 1)⟩
def loS (ts : List Int) (k : Int) : Tup Int := ⟨ts.set k.toNat (ts.getD k.toNat 0 + -1)⟩
theorem mem_mov {ts : List Int} {k : Int} : k ∈ movS ts ↔ (0 ≤ k ∧ k < ts.length) ∧ 0 < ts.getD k.toNat 0 := by
  unfold movS
  rw [List.mem_filter, mem_upto, decide_eq_true_iff]
theorem zer_len {ts : List Int} : (zerS ts).length = ts.length := by unfold zerS; rw [List.length_map]
theorem zer_at {ts : List Int} {k : Nat} : (zerS ts).getD k 0 = 0 := by
  unfold zerS
  rw [List.getD_eq_getElem?_getD, List.getElem?_map]
  cases ts[k]? <;> rfl
theorem find_one {α : Type} {c : α → Int} {p : α → Bool} {a : α} : ∀ {L : List α}, L.Pairwise (fun x y => c x < c y) → a ∈ L → p a = true → (∀ x ∈ L, p x = true → c a ≤ c x) → L.find? p = some a
  | [], _, h, _, _ => nomatch h
  | x :: L, hpw, h, ha, hm => by
    obtain ⟨h1, h2⟩ := List.pairwise_cons.mp hpw
    rw [List.find?_cons]
    rcases List.mem_cons.mp h with e | h
    · subst e; rw [ha]
    · have hx : p x = false := by
        cases q : p x with
        | false => rfl
        | true =>
          have := hm x List.mem_cons_self q
          have := h1 a h
          omega
      rw [hx]
      exact find_one h2 h ha fun y hy => hm y (List.mem_cons_of_mem _ hy)
theorem filter_one {α : Type} {c : α → Int} {p : α → Bool} {a : α} : ∀ {L : List α}, L.Pairwise (fun x y => c x < c y) → a ∈ L → (∀ x ∈ L, p x = true ↔ x = a) → L.filter p = [a]
  | [], _, h, _ => nomatch h
  | x :: L, hpw, h, hm => by
    obtain ⟨h1, h2⟩ := List.pairwise_cons.mp hpw
    rcases List.mem_cons.mp h with e | h
    · subst e
      rw [List.filter_cons_of_pos ((hm a List.mem_cons_self).mpr rfl), List.filter_eq_nil_iff.mpr fun y hy z => ?_]
      have := (hm y (List.mem_cons_of_mem _ hy)).mp z
      subst this
      have := h1 y hy
      omega
    · have hx : ¬ p x = true := fun q => by
        have := (hm x List.mem_cons_self).mp q
        subst this
        have := h1 x h
        omega
      rw [List.filter_cons_of_neg hx]
      exact filter_one h2 h fun y hy => hm y (List.mem_cons_of_mem _ hy)
theorem ext_getD {x y : List Int} (hl : x.length = y.length) (h : ∀ k, k < x.length → x.getD k 0 = y.getD k 0) : x = y := by
  refine List.ext_getElem hl fun k h1 h2 => ?_
  have := h k h1
  rwa [List.getD_eq_getElem?_getD, List.getD_eq_getElem?_getD, List.getElem?_eq_getElem h1, List.getElem?_eq_getElem h2] at this
section
variable {ts : List Int} (h0 : ∀ t ∈ ts, 0 ≤ t)
include h0
theorem ts_at (k : Nat) : 0 ≤ ts.getD k 0 := by
  rw [List.getD_eq_getElem?_getD]
  cases h : ts[k]? with
  | none => exact Int.le_refl _
  | some v => exact h0 v (List.mem_of_getElem? h)
theorem zer_in : InS ts (zerS ts) := InS.of zer_len fun k hk => by rw [zer_at]; exact ⟨Int.le_refl _, ts_at h0 k⟩
theorem top_in : InS ts ts := InS.of rfl fun k hk => ⟨ts_at h0 k, Int.le_refl _⟩
theorem un_in {k : Int} (hk : k ∈ movS ts) : InS ts (unS ts k).l := by
  obtain ⟨h1, h2⟩ := mem_mov.mp hk
  exact (zer_in h0).set (by rw [zer_len]; omega) (by rw [zer_at]; decide) (by rw [zer_at]; omega)
theorem lo_in {k : Int} (hk : k ∈ movS ts) : InS ts (loS ts k).l := by
  obtain ⟨h1, h2⟩ := mem_mov.mp hk
  exact (top_in h0).set (by omega) (by omega) (by omega)
omit h0 in
theorem bel_un {x : List Int} (hx : InS ts x) {k : Int} (hk : k ∈ movS ts) : belowB (unS ts k).l x = true ↔ 0 < x.getD k.toNat 0 := by
  obtain ⟨h1, h2⟩ := mem_mov.mp hk
  have hl : (unS ts k).l.length = x.length := by show (List.set _ _ _).length = _; rw [List.length_set, zer_len, hx.len]
  have hkz : k.toNat < (zerS ts).length := by rw [zer_len]; omega
  rw [below_all _ _ hl]
  constructor
  · intro h
    have := h k.toNat (by rw [hl, hx.len]; omega)
    rw [show (unS ts k).l = (zerS ts).set k.toNat ((zerS ts).getD k.toNat 0 + 1) from rfl, gd_set hkz, if_pos rfl, zer_at] at this
    omega
  · intro h j hj
    rw [show (unS ts k).l = (zerS ts).set k.toNat ((zerS ts).getD k.toNat 0 + 1) from rfl, gd_set hkz]
    have := (hx.at j (by rw [← hl]; exact hj)).1
    split
    · rename_i e; subst e; rw [zer_at]; omega
    · rw [zer_at]; exact this
omit h0 in
theorem bel_lo {x : List Int} (hx : InS ts x) {k : Int} (hk : k ∈ movS ts) : belowB x (loS ts k).l = true ↔ x.getD k.toNat 0 < ts.getD k.toNat 0 := by
  obtain ⟨h1, h2⟩ := mem_mov.mp hk
  have hl : x.length = (loS ts k).l.length := by show _ = (List.set _ _ _).length; rw [List.length_set, hx.len]
  have hkz : k.toNat < ts.length := by omega
  rw [below_all _ _ hl]
  constructor
  · intro h
    have := h k.toNat (by rw [hx.len]; omega)
    rw [show (loS ts k).l = ts.set k.toNat (ts.getD k.toNat 0 + -1) from rfl, gd_set hkz, if_pos rfl] at this
    omega
  · intro h j hj
    rw [show (loS ts k).l = ts.set k.toNat (ts.getD k.toNat 0 + -1) from rfl, gd_set hkz]
    have := (hx.at j hj).2
    split
    · rename_i e; subst e; omega
    · exact this
omit h0 in
theorem not_zer {x : List Int} (hx : InS ts x) (h : x ≠ zerS ts) : ∃ k ∈ movS ts, 0 < x.getD k.toNat 0 := by
  refine Classical.byContradiction fun hn => h (ext_getD (hx.len.trans zer_len.symm) fun k hk => ?_)
  rw [zer_at]
  have h1 := hx.at k hk
  by_cases q : 0 < x.getD k 0
  · exact absurd ⟨(k : Int), mem_mov.mpr ⟨⟨by omega, by have := hx.len; omega⟩, by rw [Int.toNat_natCast]; omega⟩, by rw [Int.toNat_natCast]; exact q⟩ hn
  · omega
omit h0 in
theorem not_top {x : List Int} (hx : InS ts x) (h : x ≠ ts) : ∃ k ∈ movS ts, x.getD k.toNat 0 < ts.getD k.toNat 0 := by
  refine Classical.byContradiction fun hn => h (ext_getD hx.len fun k hk => ?_)
  have h1 := hx.at k hk
  by_cases q : x.getD k 0 < ts.getD k 0
  · exact absurd ⟨(k : Int), mem_mov.mpr ⟨⟨by omega, by have := hx.len; omega⟩, by rw [Int.toNat_natCast]; omega⟩, by rw [Int.toNat_natCast]; exact q⟩ hn
  · omega
theorem ab_units {x : List Int} (hx : InS ts x) : abF ((movS ts).map (unS ts)) x = false ↔ x = zerS ts := by
  rw [← Bool.not_eq_true, ab_iff]
  constructor
  · intro h
    refine Classical.byContradiction fun hn => ?_
    obtain ⟨k, hk, q⟩ := not_zer hx hn
    exact h ⟨_, List.mem_map_of_mem hk, (bel_un hx hk).mpr q⟩
  · rintro rfl ⟨t, ht, q⟩
    obtain ⟨k, hk, rfl⟩ := List.mem_map.mp ht
    have := (bel_un (zer_in h0) hk).mp q
    rw [zer_at] at this
    omega
theorem be_lower {x : List Int} (hx : InS ts x) : beF ((movS ts).map (loS ts)) x = false ↔ x = ts := by
  rw [← Bool.not_eq_true, be_iff]
  constructor
  · intro h
    refine Classical.byContradiction fun hn => ?_
    obtain ⟨k, hk, q⟩ := not_top hx hn
    exact h ⟨_, List.mem_map_of_mem hk, (bel_lo hx hk).mpr q⟩
  · rintro e ⟨t, ht, q⟩
    subst e
    obtain ⟨k, hk, rfl⟩ := List.mem_map.mp ht
    have := (bel_lo hx hk).mp q
    omega
theorem be_zer {x : List Int} (hx : InS ts x) : beF [Tup.mk (zerS ts)] x = true ↔ x = zerS ts := by
  rw [be_iff]
  constructor
  · rintro ⟨t, ht, q⟩
    rw [List.mem_singleton] at ht
    subst ht
    refine Classical.byContradiction fun hn => ?_
    obtain ⟨k, hk, p⟩ := not_zer hx hn
    have := (below_all _ _ (hx.len.trans zer_len.symm)).mp q k.toNat (by have := mem_mov.mp hk; have := hx.len; omega)
    rw [zer_at] at this
    omega
  · rintro rfl
    exact ⟨_, List.mem_cons_self, bel_refl _⟩
theorem ab_top {x : List Int} (hx : InS ts x) : abF [Tup.mk ts] x = true ↔ x = ts := by
  rw [ab_iff]
  constructor
  · rintro ⟨t, ht, q⟩
    rw [List.mem_singleton] at ht
    subst ht
    refine Classical.byContradiction fun hn => ?_
    obtain ⟨k, hk, p⟩ := not_top hx hn
    have := (below_all _ _ hx.len.symm).mp q k.toNat (by have := mem_mov.mp hk; omega)
    omega
  · rintro rfl
    exact ⟨_, List.mem_cons_self, bel_refl _⟩
theorem tup_l {x : Tup Int} {l : List Int} : x.l = l ↔ x = ⟨l⟩ := ⟨fun h => by cases x; cases h; rfl, fun h => by rw [h]⟩
variable {B : Int} (hB : 1 ≤ B) (hb : ∀ t ∈ ts, t < B)
include hB hb
theorem units_all : ∀ t ∈ (movS ts).map (unS ts), InS ts t.l := fun t ht => by obtain ⟨k, hk, rfl⟩ := List.mem_map.mp ht; exact un_in h0 hk
theorem lower_all : ∀ t ∈ (movS ts).map (loS ts), InS ts t.l := fun t ht => by obtain ⟨k, hk, rfl⟩ := List.mem_map.mp ht; exact lo_in h0 hk
theorem w_keep : (keepF ts ((movS ts).map (unS ts))).map Tup.mk = [⟨zerS ts⟩] := by
  rw [keep_eq hB hb (units_all h0 hB hb), filter_one (a := Tup.mk (zerS ts)) (sT_pw hb) (mem_sT.mpr (zer_in h0)) fun x hx => ?_]
  · rfl
  · rw [Bool.not_eq_true', ab_units h0 (mem_sT.mp hx)]; exact tup_l h0
theorem w_break : (breakF ts ((movS ts).map (loS ts))).map Tup.mk = [⟨ts⟩] := by
  rw [break_eq hB hb (lower_all h0 hB hb), filter_one (a := Tup.mk ts) (sT_pw hb) (mem_sT.mpr (top_in h0)) fun x hx => ?_]
  · rfl
  · rw [Bool.not_eq_true', be_lower h0 (mem_sT.mp hx)]; exact tup_l h0
theorem one_in {l : List Int} (h : InS ts l) : ∀ t ∈ [Tup.mk l], InS ts t.l := fun t ht => by rw [List.mem_singleton] at ht; rw [ht]; exact h
theorem w_unc1 : (uncF ts ((movS ts).map (unS ts)) [⟨zerS ts⟩]).map Tup.mk = none := by
  rw [unc_eq hB hb (units_all h0 hB hb) (one_in h0 hB hb (zer_in h0)), List.find?_eq_none]
  intro x hx q
  obtain ⟨q1, q2⟩ := Bool.and_eq_true_iff.mp q
  rw [Bool.not_eq_true'] at q1 q2
  have := (ab_units h0 (mem_sT.mp hx)).mp q1
  rw [(be_zer h0 (mem_sT.mp hx)).mpr this] at q2
  cases q2
theorem w_unc2 : (uncF ts [⟨ts⟩] ((movS ts).map (loS ts))).map Tup.mk = none := by
  rw [unc_eq hB hb (one_in h0 hB hb (top_in h0)) (lower_all h0 hB hb), List.find?_eq_none]
  intro x hx q
  obtain ⟨q1, q2⟩ := Bool.and_eq_true_iff.mp q
  rw [Bool.not_eq_true'] at q1 q2
  have := (be_lower h0 (mem_sT.mp hx)).mp q2
  rw [(ab_top h0 (mem_sT.mp hx)).mpr this] at q1
  cases q1
theorem w_unc3 : (uncF ts ((movS ts).map (unS ts)) []).map Tup.mk = some ⟨zerS ts⟩ := by
  rw [unc_eq hB hb (units_all h0 hB hb) (fun t ht => absurd ht (by simp))]
  refine find_one (sT_pw hb) (mem_sT.mpr (zer_in h0)) ?_ fun x hx q => ?_
  · rw [(ab_units h0 (zer_in h0)).mpr rfl]; rfl
  · have q1 := (Bool.and_eq_true_iff.mp q).1
    rw [Bool.not_eq_true'] at q1
    have := (tup_l h0).mp ((ab_units h0 (mem_sT.mp hx)).mp q1)
    subst this
    exact Int.le_refl _
theorem w_unc4 : (uncF ts [] ((movS ts).map (loS ts))).map Tup.mk = some ⟨ts⟩ := by
  rw [unc_eq hB hb (fun t ht => absurd ht (by simp)) (lower_all h0 hB hb)]
  refine find_one (sT_pw hb) (mem_sT.mpr (top_in h0)) ?_ fun x hx q => ?_
  · rw [(be_lower h0 (top_in h0)).mpr rfl]; rfl
  · have q1 := (Bool.and_eq_true_iff.mp q).2
    rw [Bool.not_eq_true'] at q1
    have := (tup_l h0).mp ((be_lower h0 (mem_sT.mp hx)).mp q1)
    subst this
    exact Int.le_refl _
omit h0 hB hb in
theorem mov_nd : (movS ts).Nodup := by
  unfold movS
  refine List.Nodup.sublist List.filter_sublist ?_
  exact (upto_pw ts.length).imp fun h e => by omega
theorem w_unc5 {j : Nat} (hj : j < (movS ts).length) : (uncF ts (((movS ts).map (unS ts)).eraseIdx j) [⟨zerS ts⟩]).map Tup.mk = some (((movS ts).map (unS ts)).getD j ⟨[]⟩) := by
  have hU := units_all h0 hB hb
  have hk : (movS ts)[j] ∈ movS ts := List.getElem_mem hj
  have hg : ((movS ts).map (unS ts)).getD j ⟨[]⟩ = unS ts (movS ts)[j] := by
    rw [List.getD_eq_getElem?_getD, List.getElem?_map, List.getElem?_eq_getElem hj]; rfl
  rw [hg, unc_eq hB hb (fun t ht => hU t (List.mem_of_mem_eraseIdx ht)) (one_in h0 hB hb (zer_in h0))]
  have hmem : ∀ k ∈ movS ts, k ≠ (movS ts)[j] → unS ts k ∈ ((movS ts).map (unS ts)).eraseIdx j := fun k hk2 hne => by
    obtain ⟨i, hi, e⟩ := List.mem_iff_getElem.mp hk2
    refine List.mem_eraseIdx_iff_getElem?.mpr ⟨i, fun z => hne ?_, by rw [List.getElem?_map, List.getElem?_eq_getElem hi, e]; rfl⟩
    subst z
    exact e.symm
  have hun := un_in h0 hk
  have hat : ∀ k ∈ movS ts, 0 < (unS ts (movS ts)[j]).l.getD k.toNat 0 → k = (movS ts)[j] := fun k hk2 q => by
    have h1 := mem_mov.mp hk
    have h2 := mem_mov.mp hk2
    rw [show (unS ts (movS ts)[j]).l = (zerS ts).set (movS ts)[j].toNat ((zerS ts).getD (movS ts)[j].toNat 0 + 1) from rfl, gd_set (by rw [zer_len]; omega)] at q
    by_cases e : k.toNat = (movS ts)[j].toNat
    · omega
    · rw [if_neg e, zer_at] at q; omega
  refine find_one (sT_pw hb) (mem_sT.mpr hun) ?_ fun x hx q => ?_
  · refine Bool.and_eq_true_iff.mpr ⟨?_, ?_⟩
    · rw [Bool.not_eq_true', ← Bool.not_eq_true, ab_iff]
      rintro ⟨t, ht, q⟩
      obtain ⟨i, hi, e⟩ := List.mem_eraseIdx_iff_getElem?.mp ht
      rw [List.getElem?_map] at e
      cases hi2 : (movS ts)[i]? with
      | none => rw [hi2] at e; cases e
      | some k =>
        rw [hi2] at e
        cases e
        have hk2 := List.mem_of_getElem? hi2
        have := hat k hk2 ((bel_un hun hk2).mp q)
        obtain ⟨hil, hie⟩ := List.getElem?_eq_some_iff.mp hi2
        exact hi ((List.getElem_inj mov_nd).mp (hie.trans this))
    · rw [Bool.not_eq_true', ← Bool.not_eq_true, be_zer h0 hun]
      intro z
      have := (bel_un hun hk).mp (bel_refl _)
      rw [z, zer_at] at this
      omega
  · obtain ⟨q1, q2⟩ := Bool.and_eq_true_iff.mp q
    rw [Bool.not_eq_true', ← Bool.not_eq_true] at q1 q2
    have hxi := mem_sT.mp hx
    obtain ⟨k, hk2, p⟩ := not_zer hxi fun e => q2 ((be_zer h0 hxi).mpr e)
    have hb2 := (bel_un hxi hk2).mpr p
    by_cases e : k = (movS ts)[j]
    · subst e
      exact code_bel hB (hun.len.trans hxi.len.symm) hb2
    · exact absurd (ab_iff.mpr ⟨_, hmem k hk2 e, hb2⟩) q1
end
end K14
namespace K14
open PySem PySem.Spec PyProof.Rows L2 L2H Lw RZ
variable {P : Program} {w : World} {K : PySem.W.Frag} {mg : Str → Option Value} {base : Heap}
def WOk (t : Tup Int) : Prop := (∀ x ∈ t.l, 0 ≤ x) ∧ prodF t.l = 4096 ∧ t.l.length ≤ 12 ∧ 0 < (movS t.l).length
instance (t : Tup Int) : Decidable (WOk t) := by unfold WOk; infer_instance
def wMenu : List (Tup Int) := [⟨[4095]⟩, ⟨[63, 63]⟩, ⟨[15, 15, 15]⟩, ⟨[7, 7, 7, 7]⟩, ⟨[1, 2047]⟩, ⟨[0, 4095]⟩, ⟨(List.replicate 12 [(1 : Int)]).flatten⟩]
theorem wMenu_ok : ∀ t ∈ wMenu, WOk t := by decide +kernel
def a_wi (K : PySem.W.Frag) : List (Slot K) → Os → (Bool → Os → Prop) → Prop := fun xs os P => ∃ (l : Addr), xs = [sv (V.ref l)] ∧ os = [(l, Bag K)] ∧ P true os
theorem sc_law_within : FnScope ["bag", "menu", "tops", "zeros", "top", "moved", "k", "units", "lower", "unit"] ["bag"] (defScope (topS 37)) := ⟨rfl, rfl, rfl, by decide +kernel, rfl, by decide +kernel, by decide +kernel⟩

theorem ok_law_within (E : FX K mg) (hPr : P = PySem.Challenge.pw_planyard_k14_closing_whole) : Cal P w K mg base "_law_within" 5 ["bag"] (SpW K (a_wi K)) := by
  refine E.cal 31 33 (st := topS 37) rfl rfl (fun _ _ _ _ _ _ us hl => match us, hl with | [_], _ => rfl) fun f fd F => okWD F sc_law_within (fun xs os P' h => ?_) (fun cdv Ar outer s0 H0 E0 hr xs os P' h => ?_)
  · obtain ⟨_, rfl, _⟩ := h; rfl
  · obtain ⟨l, rfl, rfl, hP⟩ := h
    refine ⟨_, (pss_cons (ps_set (i := 1) sc_law_within.nd rfl (.inl rfl) (pe_lst (pa_cons (pe_tup (pa_cons pe_int pa_nil)) (pa_cons (pe_tup (pa_cons pe_int (pa_cons pe_int pa_nil))) (pa_cons (pe_tup (pa_cons pe_int (pa_cons pe_int (pa_cons pe_int pa_nil)))) (pa_cons (pe_tup (pa_cons pe_int (pa_cons pe_int (pa_cons pe_int (pa_cons pe_int pa_nil))))) (pa_cons (pe_tup (pa_cons pe_int (pa_cons pe_int pa_nil))) (pa_cons (pe_tup (pa_cons pe_int (pa_cons pe_int pa_nil))) (pa_cons (pe_op (op_repTAK K) (pe_tup (pa_cons pe_int pa_nil)) pe_int) pa_nil)))))))))
    (pss_cons (ps_set (i := 2) sc_law_within.nd rfl (.inr rfl) (pe_ix (ix_listK K) (pv 1) (pe_c (ok_law_take E) (hr.mono (by decide)) rfl (pa_cons (pv 0) (pa_cons pe_int pa_nil))) (fun _ _ => rfl)))
    (pss_cons (ps_set (i := 3) sc_law_within.nd rfl (.inr rfl) (pe_callTy (tuple_ofK K) (by rfl) (E.free 40) (by decide +kernel) (pa_cons (pe_lc (own := [("top", 4)]) (g := gName 4) (tt := tYes) rfl sc_law_within.nd (pi_tupK K (pv 2)) (blkOk_by (N := ["bag", "menu", "tops", "zeros", "top", "moved", "k", "units", "lower", "unit"]) (sc := defScope (topS 37)) (own := [("top", 4)]) (by decide +kernel)) (fun _ _ _ _ _ => (pg_name (i := 4) sc_law_within.nd rfl (Or.inl rfl))) (fun _ _ _ _ _ => pts_nil) (fun _ _ _ _ _ => pe_int)) pa_nil)))
    (pss_cons (ps_setLc (i := 5) (own := [("k", 6)]) (g := gName 6) rfl sc_law_within.nd rfl rfl (sw_true rfl rfl rfl (by decide +kernel)) (pi_range1 rfl (E.free 43) (pa_cons (pe_callB (len_seqK K) (by rfl) (E.free 46) (by decide +kernel) (pa_cons (pv 2) pa_nil)) pa_nil)) (blkOk_by (N := ["bag", "menu", "tops", "zeros", "top", "moved", "k", "units", "lower", "unit"]) (sc := defScope (topS 37)) (own := [("k", 6)]) (by decide +kernel)) (fun _ _ _ _ _ => (pg_name (i := 6) sc_law_within.nd rfl (Or.inl rfl))) (fun _ _ _ _ _ => (pts_one (pt_cmpR op_gt (pe_ix (ix_tupK K) (pv 2) (pv 6) (fun _ _ => rfl)) pe_int (nomark _)))) (fun _ _ _ _ _ => (pv 6)))
    (pss_cons (ps_setLc (i := 7) (own := [("k", 6)]) (g := gName 6) (tt := tYes) rfl sc_law_within.nd rfl rfl (sw_true rfl rfl rfl (by decide +kernel)) (pi_listK K (pv 5)) (blkOk_by (N := ["bag", "menu", "tops", "zeros", "top", "moved", "k", "units", "lower", "unit"]) (sc := defScope (topS 37)) (own := [("k", 6)]) (by decide +kernel)) (fun _ _ _ _ _ => (pg_name (i := 6) sc_law_within.nd rfl (Or.inl rfl))) (fun _ _ _ _ _ => pts_nil) (fun _ _ _ _ _ => (pe_c (ok_law_step E) (hr.mono (by decide)) rfl (pa_cons (pv 3) (pa_cons (pv 6) (pa_cons pe_int pa_nil))))))
    (pss_cons (ps_setLc (i := 8) (own := [("k", 6)]) (g := gName 6) (tt := tYes) rfl sc_law_within.nd rfl rfl (sw_true rfl rfl rfl (by decide +kernel)) (pi_listK K (pv 5)) (blkOk_by (N := ["bag", "menu", "tops", "zeros", "top", "moved", "k", "units", "lower", "unit"]) (sc := defScope (topS 37)) (own := [("k", 6)]) (by decide +kernel)) (fun _ _ _ _ _ => (pg_name (i := 6) sc_law_within.nd rfl (Or.inl rfl))) (fun _ _ _ _ _ => pts_nil) (fun _ _ _ _ _ => (pe_c (ok_law_step E) (hr.mono (by decide)) rfl (pa_cons (pv 2) (pa_cons (pv 6) (pa_cons (pe_un un_neg pe_int) pa_nil))))))
    (pss_cons (ps_if (pt_not (pt_val (pe_c (ok_same_tt E) (hr.mono (by decide)) rfl (pa_cons (pe_cE (E := fun _ _ _ => False) (ok_keepers_of E hPr) (hr.mono (by decide)) (takes0N) (fun _ _ _ _ z => z) rfl (pa_cons (pv 2) (pa_cons (pe_callTy (tuple_ofK K) (by rfl) (E.free 40) (by decide +kernel) (pa_cons (pv 7) pa_nil)) pa_nil))) (pa_cons (pe_tup (pa_cons (pv 3) pa_nil)) pa_nil))))) (pss_one (ps_ret pe_bl)) pss_nil)
    (pss_cons (ps_if (pt_not (pt_val (pe_c (ok_same_tt E) (hr.mono (by decide)) rfl (pa_cons (pe_cE (E := fun _ _ _ => False) (ok_breakers_of E hPr) (hr.mono (by decide)) (takes0N) (fun _ _ _ _ z => z) rfl (pa_cons (pv 2) (pa_cons (pe_callTy (tuple_ofK K) (by rfl) (E.free 40) (by decide +kernel) (pa_cons (pv 8) pa_nil)) pa_nil))) (pa_cons (pe_tup (pa_cons (pv 2) pa_nil)) pa_nil))))) (pss_one (ps_ret pe_bl)) pss_nil)
    (pss_cons (ps_if (pt_cmpR op_notN (pe_cE (E := fun _ _ _ => False) (ok_uncovered E hPr) (hr.mono (by decide)) (takes0N) (fun _ _ _ _ z => z) rfl (pa_cons (pv 2) (pa_cons (pe_callTy (tuple_ofK K) (by rfl) (E.free 40) (by decide +kernel) (pa_cons (pv 7) pa_nil)) (pa_cons (pe_tup (pa_cons (pv 3) pa_nil)) pa_nil)))) pe_non (nomark _)) (pss_one (ps_ret pe_bl)) pss_nil)
    (pss_cons (ps_if (pt_cmpR op_notN (pe_cE (E := fun _ _ _ => False) (ok_uncovered E hPr) (hr.mono (by decide)) (takes0N) (fun _ _ _ _ z => z) rfl (pa_cons (pv 2) (pa_cons (pe_tup (pa_cons (pv 2) pa_nil)) (pa_cons (pe_callTy (tuple_ofK K) (by rfl) (E.free 40) (by decide +kernel) (pa_cons (pv 8) pa_nil)) pa_nil)))) pe_non (nomark _)) (pss_one (ps_ret pe_bl)) pss_nil)
    (pss_cons (ps_if (pt_not (pt_val (pe_c (ok_same_ti E) (hr.mono (by decide)) rfl (pa_cons (pe_cE (E := fun _ _ _ => False) (ok_uncovered E hPr) (hr.mono (by decide)) (takes0N) (fun _ _ _ _ z => z) rfl (pa_cons (pv 2) (pa_cons (pe_callTy (tuple_ofK K) (by rfl) (E.free 40) (by decide +kernel) (pa_cons (pv 7) pa_nil)) (pa_cons (pe_tup pa_nil) pa_nil)))) (pa_cons (pv 3) pa_nil))))) (pss_one (ps_ret pe_bl)) pss_nil)
    (pss_cons (ps_if (pt_not (pt_val (pe_c (ok_same_ti E) (hr.mono (by decide)) rfl (pa_cons (pe_cE (E := fun _ _ _ => False) (ok_uncovered E hPr) (hr.mono (by decide)) (takes0N) (fun _ _ _ _ z => z) rfl (pa_cons (pv 2) (pa_cons (pe_tup pa_nil) (pa_cons (pe_callTy (tuple_ofK K) (by rfl) (E.free 40) (by decide +kernel) (pa_cons (pv 8) pa_nil)) pa_nil)))) (pa_cons (pv 2) pa_nil))))) (pss_one (ps_ret pe_bl)) pss_nil)
    (pss_cons (ps_set (i := 9) sc_law_within.nd rfl (.inl rfl) (pe_bm PySem.F.plainAttrs_list PySem.F.slot_list_pop PySem.F.type_list_pop mt_popAt (pv 7) (pa_cons (pe_c (ok_law_take E) (hr.mono (by decide)) rfl (pa_cons (pv 0) (pa_cons (pe_callB (len_seqK K) (by rfl) (E.free 46) (by decide +kernel) (pa_cons (pv 7) pa_nil)) pa_nil))) pa_nil)))
    (pss_one (ps_ret (pe_c (ok_same_ti E) (hr.mono (by decide)) rfl (pa_cons (pe_cE (E := fun _ _ _ => False) (ok_uncovered E hPr) (hr.mono (by decide)) (takes0N) (fun _ _ _ _ z => z) rfl (pa_cons (pv 2) (pa_cons (pe_callTy (tuple_ofK K) (by rfl) (E.free 40) (by decide +kernel) (pa_cons (pv 7) pa_nil)) (pa_cons (pe_tup (pa_cons (pv 3) pa_nil)) pa_nil)))) (pa_cons (pv 9) pa_nil)))))))))))))))))), fun g σ Q s fin => ?_⟩
    -- menu
    refine st_set (x := wMenu) s (ev_lstL (el_cons (ev_tupL (el_cons ev_int el_nil)) (el_cons (ev_tupL (el_cons ev_int (el_cons ev_int el_nil))) (el_cons (ev_tupL (el_cons ev_int (el_cons ev_int (el_cons ev_int el_nil)))) (el_cons (ev_tupL (el_cons ev_int (el_cons ev_int (el_cons ev_int (el_cons ev_int el_nil))))) (el_cons (ev_tupL (el_cons ev_int (el_cons ev_int el_nil))) (el_cons (ev_tupL (el_cons ev_int (el_cons ev_int el_nil))) (el_cons (ev_repT (xs := Tup.mk [(1 : Int)]) (k := 12) (ev_tupL (el_cons ev_int el_nil)) ev_int (by decide) (by decide)) el_nil)))))))) (fun v g h s => ?_)
    -- tops = menu[_law_take(bag, 7)]
    try dsimp only
    refine st_setW (P := WOk) s (EvW.imp (ew_op (Ev.w (ev_var (x := wMenu) rfl)) (ew_takeC (m := 0) rfl rfl ev_int ⟨by decide, by decide⟩) fun x y px py => ev_ixLD (⟨[]⟩ : Tup Int) (ev_var rfl) (ev_var rfl) py.1 (by rw [px]; exact py.2)) fun z ⟨x, y, px, py, hz⟩ => ?_) (fun tops ht v g h s => ?_)
    · rw [hz, px]
      exact wMenu_ok _ (getD_mem (by have := py.1; have := py.2; show y.toNat < 7; omega))
    have h0 := ht.1
    have hl12 := ht.2.2.1
    have okt : okT tops := ⟨ht.1, by have := ht.2.1; omega, by omega⟩
    have hb : ∀ t ∈ tops.l, t < 4096 := fun t h => by have := okT_top okt h; omega
    have hB : (1 : Int) ≤ 4096 := by decide
    have hno : ¬ (4096 < prodF tops.l) := by have := ht.2.1; omega
    have hml : (movS tops.l).length ≤ 12 := by
      unfold movS
      refine Nat.le_trans (List.length_filter_le _ _) ?_
      rw [upto_len]; exact hl12
    have hUl : ((movS tops.l).map (unS tops.l)).length ≤ 12 := by rw [List.length_map]; exact hml
    have hLl : ((movS tops.l).map (loS tops.l)).length ≤ 12 := by rw [List.length_map]; exact hml
    have hargs : ∀ n : Nat, n ≤ 12 → (∀ t ∈ tops.l, 0 ≤ t) ∧ prodF tops.l < 2 ^ 63 ∧ tops.l.length ≤ 1000 ∧ n ≤ 5000 := fun n hn => ⟨ht.1, by have := ht.2.1; omega, by omega, by omega⟩
    have hargs3 : ∀ n m : Nat, n ≤ 12 → m ≤ 12 → (∀ t ∈ tops.l, 0 ≤ t) ∧ prodF tops.l < 2 ^ 63 ∧ tops.l.length ≤ 1000 ∧ n ≤ 5000 ∧ m ≤ 5000 := fun n m hn hm => ⟨ht.1, by have := ht.2.1; omega, by omega, by omega, by omega⟩
    have hzl : (zerS tops.l).length ≤ 12 := by rw [zer_len]; exact hl12
    -- zeros = tuple([0 for top in tops])
    try dsimp only
    refine st_set (x := (Tup.mk (zerS tops.l))) s (ev_tupleL (EvN.ev (EvN.all (en_lcT (m := fun _ => (0 : Int)) tgt_name (ev_var rfl) (fun _ _ => et_yes) (fun x hx _ => ev_int) (by omega))))) (fun v g h s => ?_)
    -- moved
    try dsimp only
    have hm : ∀ x ∈ upto (tops.l.length : Int).toNat, 0 ≤ x ∧ x < tops.l.length := fun x hx => by rw [mem_upto] at hx; omega
    refine st_set (x := movS tops.l) s (Ev.to (EvN.ev (en_lcR (m := fun x => x) (ev_lenT (ev_var rfl)) (fun x hx => (et_test (ev_ib (ev_ixTD 0 (ev_var rfl) (ev_var rfl) (hm x hx).1 (hm x hx).2) ev_int))) (fun x hx _ => (ev_var rfl)) (by omega) (by omega))) (by rw [List.map_id', Int.toNat_natCast]; rfl)) (fun v g h s => ?_)
    -- units
    try dsimp only
    have hk : ∀ k ∈ movS tops.l, 0 ≤ k ∧ k < tops.l.length := fun k h => (mem_mov.mp h).1
    refine st_setN (xs := ((movS tops.l).map (unS tops.l))) s (EvN.all (en_lcL tgt_name (ev_var rfl) (fun _ _ => et_yes) (fun x hx _ => (ev_call (ea_cons (ev_var rfl) (ea_cons (ev_var rfl) (ea_cons ev_int ea_nil))) ⟨_, _, _, rfl, ⟨(hk x hx).1, by show x < (zerS tops.l).length; rw [zer_len]; exact (hk x hx).2, by show (zerS tops.l).length ≤ 1000; omega⟩, rfl⟩)) (by omega))) (fun lu g h s => ?_)
    -- lower
    try dsimp only
    refine st_set (x := ((movS tops.l).map (loS tops.l))) s (EvN.ev (EvN.all (en_lcL tgt_name (ev_var rfl) (fun _ _ => et_yes) (fun x hx _ => (ev_call (ea_cons (ev_var rfl) (ea_cons (ev_var rfl) (ea_cons (ev_iu ev_int) ea_nil))) ⟨_, _, _, rfl, ⟨(hk x hx).1, (hk x hx).2, by omega⟩, rfl⟩)) (by omega)))) (fun v g h s => ?_)
    try dsimp only
    refine st_if s (et_not (et_B (ev_call (ea_cons (ev_callE (z := Tup.mk [(Tup.mk (zerS tops.l))]) (ea_cons (ev_var rfl) (ea_cons (ev_sqT (ev_tupleO (m := 1) rfl rfl)) ea_nil)) ⟨tops, _, rfl, hargs _ hUl, fun _ => congrArg Tup.mk (w_keep h0 hB hb), fun z => (hno z).elim⟩) (ea_cons (ev_tupL (el_cons (ev_var rfl) el_nil)) ea_nil)) ⟨Tup.mk [(Tup.mk (zerS tops.l))], rfl, ⟨by show 1 ≤ 5000; decide, fun t ht => by rw [List.mem_singleton] at ht; rw [ht]; show (zerS tops.l).length ≤ 5000; omega⟩, rfl⟩))) (fun hc g h s => by cases hc) (fun _ g h s => ?_)
    dsimp only [tNext]
    try dsimp only
    refine st_if s (et_not (et_B (ev_call (ea_cons (ev_callE (z := Tup.mk [tops]) (ea_cons (ev_var rfl) (ea_cons (ev_sqT (ev_tupleL (ev_var (x := ((movS tops.l).map (loS tops.l))) rfl))) ea_nil)) ⟨tops, _, rfl, hargs _ hLl, fun _ => congrArg Tup.mk (w_break h0 hB hb), fun z => (hno z).elim⟩) (ea_cons (ev_tupL (el_cons (ev_var rfl) el_nil)) ea_nil)) ⟨Tup.mk [tops], rfl, ⟨by show 1 ≤ 5000; decide, fun t ht => by rw [List.mem_singleton] at ht; rw [ht]; show tops.l.length ≤ 5000; omega⟩, rfl⟩))) (fun hc g h s => by cases hc) (fun _ g h s => ?_)
    dsimp only [tNext]
    try dsimp only
    refine st_if s (et_test (ev_notN (ev_callE (z := (none : Option (Tup Int))) (ea_cons (ev_var rfl) (ea_cons (ev_sqT (ev_tupleO (m := 1) rfl rfl)) (ea_cons (ev_sqT (ev_tupL (el_cons (ev_var (x := (Tup.mk (zerS tops.l))) rfl) el_nil))) ea_nil))) ⟨tops, _, _, rfl, hargs3 _ _ hUl (by simp), fun _ => w_unc1 h0 hB hb, fun z => (hno z).elim⟩))) (fun hc g h s => by cases hc) (fun _ g h s => ?_)
    dsimp only [tNext]
    try dsimp only
    refine st_if s (et_test (ev_notN (ev_callE (z := (none : Option (Tup Int))) (ea_cons (ev_var rfl) (ea_cons (ev_sqT (ev_tupL (el_cons (ev_var (x := tops) rfl) el_nil))) (ea_cons (ev_sqT (ev_tupleL (ev_var (x := ((movS tops.l).map (loS tops.l))) rfl))) ea_nil))) ⟨tops, _, _, rfl, hargs3 _ _ (by simp) hLl, fun _ => w_unc2 h0 hB hb, fun z => (hno z).elim⟩))) (fun hc g h s => by cases hc) (fun _ g h s => ?_)
    dsimp only [tNext]
    try dsimp only
    refine st_if s (et_not (et_B (ev_call (ea_cons (ev_unS (ev_callE (z := (some (Tup.mk (zerS tops.l)) : Option (Tup Int))) (ea_cons (ev_var rfl) (ea_cons (ev_sqT (ev_tupleO (m := 1) rfl rfl)) (ea_cons (ev_sqT (ev_tupL (el_nil (α := Tup Int)))) ea_nil))) ⟨tops, _, _, rfl, hargs3 _ _ hUl (by simp), fun _ => w_unc3 h0 hB hb, fun z => (hno z).elim⟩)) (ea_cons (ev_var rfl) ea_nil)) ⟨(Tup.mk (zerS tops.l)), rfl, ⟨by show (zerS tops.l).length ≤ 5000; omega, trivial⟩, rfl⟩))) (fun hc g h s => by cases hc) (fun _ g h s => ?_)
    dsimp only [tNext]
    try dsimp only
    refine st_if s (et_not (et_B (ev_call (ea_cons (ev_unS (ev_callE (z := (some tops : Option (Tup Int))) (ea_cons (ev_var rfl) (ea_cons (ev_sqT (ev_tupL (el_nil (α := Tup Int)))) (ea_cons (ev_sqT (ev_tupleL (ev_var (x := ((movS tops.l).map (loS tops.l))) rfl))) ea_nil))) ⟨tops, _, _, rfl, hargs3 _ _ (by simp) hLl, fun _ => w_unc4 h0 hB hb, fun z => (hno z).elim⟩)) (ea_cons (ev_var rfl) ea_nil)) ⟨tops, rfl, ⟨by omega, trivial⟩, rfl⟩))) (fun hc g h s => by cases hc) (fun _ g h s => ?_)
    dsimp only [tNext]
    -- unit = units.pop(..)
    try dsimp only
    refine st_setPopW (m := 1) (⟨[]⟩ : Tup Int) s rfl rfl (ew_takeC (m := 0) rfl rfl (ev_lenO (m := 1) rfl rfl) ⟨by rw [List.length_map]; have := ht.2.2.2; omega, by omega⟩) (fun n hn => ⟨hn.1, hn.2, by omega⟩) (fun n hn v g h s => ?_)
    try dsimp only
    have hnj : n.toNat < (movS tops.l).length := by have := hn.2; rw [List.length_map] at this; omega
    have hmem : (((movS tops.l).map (unS tops.l)).getD n.toNat ⟨[]⟩) ∈ ((movS tops.l).map (unS tops.l)) := getD_mem (by rw [List.length_map]; exact hnj)
    have hlen1 := (units_all h0 hB hb _ hmem).len
    refine st_ret s (ev_call (ea_cons (ev_unS (ev_callE (z := (some (((movS tops.l).map (unS tops.l)).getD n.toNat ⟨[]⟩) : Option (Tup Int))) (ea_cons (ev_var rfl) (ea_cons (ev_sqT (ev_tupleO (xs := ((movS tops.l).map (unS tops.l)).eraseIdx n.toNat) (m := 1) rfl rfl)) (ea_cons (ev_sqT (ev_tupL (el_cons (ev_var (x := (Tup.mk (zerS tops.l))) rfl) el_nil))) ea_nil))) ⟨tops, _, _, rfl, hargs3 _ _ (Nat.le_trans (List.length_eraseIdx_le _ _) hUl) (by simp), fun _ => w_unc5 h0 hB hb hnj, fun z => (hno z).elim⟩)) (ea_cons (ev_var rfl) ea_nil)) ⟨_, rfl, ⟨by omega, trivial⟩, rfl⟩) ?_
    exact fun v g h s r => fin v true g h _ _ _ _ hP (fun p hp => by rw [List.mem_singleton] at hp; rw [hp]; exact List.mem_cons_self) s (by simp) r
end K14
namespace K14
open PySem PySem.Spec PyProof.Rows L2 L2H Lw RZ
variable {P : Program} {w : World} {K : PySem.W.Frag} {mg : Str → Option Value} {base : Heap}
def BOk (t : Tup Int) : Prop := (∀ x ∈ t.l, 0 ≤ x) ∧ 4096 < prodF t.l ∧ prodF t.l < 2 ^ 63 ∧ t.l.length ≤ 13
instance (t : Tup Int) : Decidable (BOk t) := by unfold BOk; infer_instance
def bMenu : List (Tup Int) := [⟨[4096]⟩, ⟨[0, 4096]⟩, ⟨[64, 63]⟩, ⟨[15, 16, 15]⟩, ⟨[2, 1365]⟩, ⟨(List.replicate 13 [(1 : Int)]).flatten⟩]
def bMore (t : Tup Int) : List (Tup Int) := [⟨[1, 40, 49]⟩, ⟨[999, 999]⟩, ⟨[(10 : Int) ^ (12 : Int).toNat]⟩, t]
theorem bMenu_ok : ∀ t ∈ bMenu, BOk t := by decide +kernel
theorem bMore_ok {t : Tup Int} (h : BOk t) : ∀ x ∈ bMore t, BOk x := fun x hx => by
  rcases List.mem_append.mp (show x ∈ ([⟨[1, 40, 49]⟩, ⟨[999, 999]⟩, ⟨[(10 : Int) ^ (12 : Int).toNat]⟩] : List (Tup Int)) ++ [t] from hx) with z | z
  · revert x; exact fun x _ z => (by decide +kernel : ∀ t ∈ ([⟨[1, 40, 49]⟩, ⟨[999, 999]⟩, ⟨[(10 : Int) ^ (12 : Int).toNat]⟩] : List (Tup Int)), BOk t) x z
  · rw [List.mem_singleton] at z; rw [z]; exact h
theorem draw_ok {a c : Int} (ha : 0 ≤ a ∧ a < 1000000) (hc : 0 ≤ c ∧ c < 3) : BOk ⟨[4096 + a, c]⟩ := by
  have e : prodF [4096 + a, c] = (4097 + a) * (c + 1) := by
    show (1 * (4096 + a + 1)) * (c + 1) = _
    rw [Int.one_mul, show 4096 + a + 1 = 4097 + a by omega]
  have hc3 : c = 0 ∨ c = 1 ∨ c = 2 := by omega
  refine ⟨fun x hx => ?_, ?_, ?_, by show 2 ≤ 13; decide⟩
  · rcases List.mem_cons.mp hx with z | z
    · omega
    · rw [List.mem_singleton] at z; omega
  · show 4096 < prodF [4096 + a, c]
    rw [e]; rcases hc3 with rfl | rfl | rfl <;> omega
  · show prodF [4096 + a, c] < 2 ^ 63
    rw [e]; rcases hc3 with rfl | rfl | rfl <;> omega
theorem sc_law_beyond : FnScope ["bag", "menu", "tops", "told", "top"] ["bag"] (defScope (topS 38)) := ⟨rfl, rfl, rfl, by decide +kernel, rfl, by decide +kernel, by decide +kernel⟩

theorem ok_law_beyond (E : FX K mg) (hPr : P = PySem.Challenge.pw_planyard_k14_closing_whole) : Cal P w K mg base "_law_beyond" 7 ["bag"] (SpW K (a_wi K)) := by
  refine E.cal 32 34 (st := topS 38) rfl rfl (fun _ _ _ _ _ _ us hl => match us, hl with | [_], _ => rfl) fun f fd F => okWD F sc_law_beyond (fun xs os P' h => ?_) (fun cdv Ar outer s0 H0 E0 hr xs os P' h => ?_)
  · obtain ⟨_, rfl, _⟩ := h; rfl
  · obtain ⟨l, rfl, rfl, hP⟩ := h
    refine ⟨_, (pss_cons (ps_set (i := 1) sc_law_beyond.nd rfl (.inl rfl) (pe_lst (pa_cons (pe_tup (pa_cons pe_int pa_nil)) (pa_cons (pe_tup (pa_cons pe_int (pa_cons pe_int pa_nil))) (pa_cons (pe_tup (pa_cons pe_int (pa_cons pe_int pa_nil))) (pa_cons (pe_tup (pa_cons pe_int (pa_cons pe_int (pa_cons pe_int pa_nil)))) (pa_cons (pe_tup (pa_cons pe_int (pa_cons pe_int pa_nil))) (pa_cons (pe_op (op_repTAK K) (pe_tup (pa_cons pe_int pa_nil)) pe_int) pa_nil))))))))
    (pss_cons (ps_set (i := 1) sc_law_beyond.nd rfl (.inl rfl) (pe_op op_cat (pv 1) (pe_lst (pa_cons (pe_tup (pa_cons pe_int (pa_cons pe_int (pa_cons pe_int pa_nil)))) (pa_cons (pe_tup (pa_cons pe_int (pa_cons pe_int pa_nil))) (pa_cons (pe_tup (pa_cons (pe_op op_pow pe_int pe_int) pa_nil)) (pa_cons (pe_tup (pa_cons (pe_op op_add pe_int (pe_c (ok_law_take E) (hr.mono (by decide)) rfl (pa_cons (pv 0) (pa_cons (pe_op op_pow pe_int pe_int) pa_nil)))) (pa_cons (pe_c (ok_law_take E) (hr.mono (by decide)) rfl (pa_cons (pv 0) (pa_cons pe_int pa_nil))) pa_nil))) pa_nil)))))))
    (pss_cons (ps_set (i := 2) sc_law_beyond.nd rfl (.inl rfl) (pe_ix (ix_listK K) (pv 1) (pe_c (ok_law_take E) (hr.mono (by decide)) rfl (pa_cons (pv 0) (pa_cons pe_int pa_nil))) (fun _ _ => rfl)))
    (pss_cons (ps_set (i := 3) sc_law_beyond.nd rfl (.inl rfl) (pe_ix (ix_listK K) (pe_lst (pa_cons (pe_tup pa_nil) (pa_cons (pe_tup (pa_cons (pe_callTy (tuple_ofK K) (by rfl) (E.free 40) (by decide +kernel) (pa_cons (pe_lc (own := [("top", 4)]) (g := gName 4) (tt := tYes) rfl sc_law_beyond.nd (pi_tupK K (pv 2)) (blkOk_by (N := ["bag", "menu", "tops", "told", "top"]) (sc := defScope (topS 38)) (own := [("top", 4)]) (by decide +kernel)) (fun _ _ _ _ _ => (pg_name (i := 4) sc_law_beyond.nd rfl (Or.inl rfl))) (fun _ _ _ _ _ => pts_nil) (fun _ _ _ _ _ => pe_int)) pa_nil)) pa_nil)) (pa_cons (pe_tup (pa_cons (pv 2) pa_nil)) pa_nil)))) (pe_c (ok_law_take E) (hr.mono (by decide)) rfl (pa_cons (pv 0) (pa_cons pe_int pa_nil))) (fun _ _ => rfl)))
    (pss_one (ps_ret (pe_cmpR op_eq (pe_c (ok_law_refusals E hPr) (hr.mono (by decide)) rfl (pa_cons (pv 2) (pa_cons (pv 3) pa_nil))) pe_int (nomark _)))))))), fun g σ Q s fin => ?_⟩
    -- menu
    refine st_set (x := SL.mk bMenu) s (EvN.evS (en_lst (el_cons (ev_tupL (el_cons ev_int el_nil)) (el_cons (ev_tupL (el_cons ev_int (el_cons ev_int el_nil))) (el_cons (ev_tupL (el_cons ev_int (el_cons ev_int el_nil))) (el_cons (ev_tupL (el_cons ev_int (el_cons ev_int (el_cons ev_int el_nil)))) (el_cons (ev_tupL (el_cons ev_int (el_cons ev_int el_nil))) (el_cons (ev_repT (xs := Tup.mk [(1 : Int)]) (k := 13) (ev_tupL (el_cons ev_int el_nil)) ev_int (by decide) (by decide)) el_nil)))))) (by decide))) (fun v g h s => ?_)
    -- menu = menu + ..
    try dsimp only
    refine st_setW (P := fun m : List (Tup Int) => ∃ t, BOk t ∧ m = bMenu ++ bMore t) s (EvW.imp (EvNW.w (enw_catS (ev_var (x := SL.mk bMenu) rfl) (enw_lstL (P := fun ys : List (Tup Int) => ∃ t, BOk t ∧ ys = bMore t) (EvLW.imp
      (elw_cons (Ev.w (ev_tupL (el_cons ev_int (el_cons ev_int (el_cons ev_int el_nil))))) (elw_cons (Ev.w (ev_tupL (el_cons ev_int (el_cons ev_int el_nil)))) (elw_cons (Ev.w (ev_tupL (el_cons (ev_iC (x := 10) (y := 12) ev_int ev_int (by exact ⟨by decide, by decide, by decide⟩)) el_nil)))
        (elw_cons (ew_tupL (P := fun zs : List Int => ∃ a c : Int, (0 ≤ a ∧ a < 1000000) ∧ (0 ≤ c ∧ c < 3) ∧ zs = [4096 + a, c]) (EvLW.imp (elw_cons (ew_op (Ev.w (ev_int (n := 4096))) (ew_takeC (m := 0) rfl rfl (ev_iC (x := 10) (y := 6) ev_int ev_int (by exact ⟨by decide, by decide, by decide⟩)) ⟨by decide, by decide⟩) fun x y _ _ => ev_i2 (ev_var rfl) (ev_var rfl)) (elw_cons (ew_takeC (m := 0) rfl rfl ev_int ⟨by decide, by decide⟩) elw_nil)) ?_) ?_) elw_nil)))) ?_) ?_) ?_)) ?_) (fun menu hmenu v g h s => ?_)
    · rintro zs ⟨x, ys, ⟨p, q, hp, hq, rfl⟩, ⟨c, ws, hc, rfl, rfl⟩, rfl⟩
      subst hp
      exact ⟨q, c, hq, hc, rfl⟩
    · rintro zs ⟨a, c, _, _, rfl⟩
      show 2 ≤ 100000
      decide
    · rintro zs ⟨x, ys, hx, ⟨x2, ys2, hx2, ⟨x3, ys3, hx3, ⟨x4, ys4, ⟨a, c, ha, hc, hx4⟩, rfl, rfl⟩, rfl⟩, rfl⟩, rfl⟩
      refine ⟨⟨[4096 + a, c]⟩, draw_ok ha hc, ?_⟩
      rw [hx, hx2, hx3, show x4 = ⟨[4096 + a, c]⟩ from (by cases x4; cases hx4; rfl)]
      rfl
    · rintro zs ⟨t, _, rfl⟩
      show 4 ≤ 100000
      decide
    · rintro zs ⟨t, _, rfl⟩
      show 6 + 4 ≤ 1000000
      decide
    · rintro zs ⟨ys, ⟨t, ht, rfl⟩, rfl⟩
      exact ⟨t, ht, rfl⟩
    obtain ⟨t0, ht0, rfl⟩ := hmenu
    have hall : ∀ t ∈ bMenu ++ bMore t0, BOk t := fun t h => by
      rcases List.mem_append.mp h with z | z
      · exact bMenu_ok t z
      · exact bMore_ok ht0 t z
    -- tops
    try dsimp only
    refine st_setW (P := BOk) s (EvW.imp (ew_op (Ev.w (ev_var (x := bMenu ++ bMore t0) rfl)) (ew_takeC (m := 0) rfl rfl ev_int ⟨by decide, by decide⟩) fun x y px py => ev_ixLD (⟨[]⟩ : Tup Int) (ev_var rfl) (ev_var rfl) py.1 (by rw [px]; exact py.2)) fun z ⟨x, y, px, py, hz⟩ => ?_) (fun tops ht v g h s => ?_)
    · rw [hz, px]
      exact hall _ (getD_mem (by have := py.1; have := py.2; show y.toNat < 10; omega))
    have hl := ht.2.2.2
    -- told
    try dsimp only
    refine st_setW (P := fun t : Tup (Tup Int) => t.l.length ≤ 1) s (EvW.imp (ew_op (Ev.w (ev_lstL (xs := ([⟨[]⟩, ⟨[⟨tops.l.map fun _ => (0 : Int)⟩]⟩, ⟨[tops]⟩] : List (Tup (Tup Int)))) (el_cons (ev_tupL (el_nil (α := Tup Int))) (el_cons (ev_tupL (el_cons (ev_tupleL (EvN.ev (EvN.all (en_lcT (m := fun _ => (0 : Int)) tgt_name (ev_var rfl) (fun _ _ => et_yes) (fun x hx _ => ev_int) (by omega))))) el_nil)) (el_cons (ev_tupL (el_cons (ev_var rfl) el_nil)) el_nil))))) (ew_takeC (m := 0) rfl rfl ev_int ⟨by decide, by decide⟩) fun x y px py => ev_ixLD (⟨[]⟩ : Tup (Tup Int)) (ev_var rfl) (ev_var rfl) py.1 (by rw [px]; exact py.2)) fun z ⟨x, y, px, py, hz⟩ => ?_) (fun told htold v g h s => ?_)
    · rw [hz, px]
      have : y = 0 ∨ y = 1 ∨ y = 2 := by omega
      rcases this with rfl | rfl | rfl
      · exact Nat.zero_le _
      · exact Nat.le_refl _
      · exact Nat.le_refl _
    try dsimp only
    refine st_ret s (Ev.to (y := true) (ev_eqI (ev_call (ea_cons (ev_var rfl) (ea_cons (ev_sqT (ev_var rfl)) ea_nil)) ⟨tops, _, rfl, ⟨ht.1, ht.2.2.1, by omega, by show told.l.length ≤ 5000; omega⟩, rfl⟩) ev_int) (by rw [if_pos ht.2.1]; rfl)) ?_
    exact fun v g h s r => fin v true g h _ _ _ _ hP (fun p hp => hp) s (by simp) r
end K14
namespace K14
open PySem PySem.Spec PyProof.Rows L2 L2H Lw RZ
variable {P : Program} {w : World} {K : PySem.W.Frag} {mg : Str → Option Value} {base : Heap}
def a_law (K : PySem.W.Frag) : List (Slot K) → (Bool → Prop) → Prop := fun xs P => ∃ script : List Int, xs = [sv script] ∧ P true
theorem sc_law : FnScope ["script", "bag", "way", "tops", "settings", "told", "other", "part"] ["script"] (defScope (topS 39)) := ⟨rfl, rfl, rfl, by decide +kernel, rfl, by decide +kernel, by decide +kernel⟩

theorem ok_law (E : FX K mg) (hPr : P = PySem.Challenge.pw_planyard_k14_closing_whole) {f : Addr} {fd : FuncData} (F : FunD K "law" "law" (defArgs (topS 39)) (defBody (topS 39)) (defScope (topS 39)) [] [] f fd) : FnOk P w K mg base CX0 8 f fd ["script"] (SpR K (a_law K)) := by
  refine okRD F sc_law (fun xs P' h => ?_) (fun cdv Ar outer s0 H0 E0 hr xs P' h => ?_)
  · obtain ⟨_, rfl, _⟩ := h; rfl
  · obtain ⟨script, rfl, hP⟩ := h
    refine ⟨_, (pss_cons (ps_set (i := 1) sc_law.nd rfl (.inl rfl) (pe_c (ok_law_bag E) (hr.mono (by decide)) rfl (pa_cons (pv 0) pa_nil)))
    (pss_cons (ps_set (i := 2) sc_law.nd rfl (.inl rfl) (pe_c (ok_law_take E) (hr.mono (by decide)) rfl (pa_cons (pv 1) (pa_cons pe_int pa_nil))))
    (pss_cons (ps_if (pt_cmpR op_eq (pv 2) pe_int (nomark _)) (pss_one (ps_ret (pe_and (pe_c (ok_law_within E hPr) (hr.mono (by decide)) rfl (pa_cons (pv 1) pa_nil)) (pe_one (pe_c (ok_law_beyond E hPr) (hr.mono (by decide)) rfl (pa_cons (pv 1) pa_nil)))))) pss_nil)
    (pss_cons (ps_set (i := 3) sc_law.nd rfl (.inl rfl) (pe_c (ok_law_tops E) (hr.mono (by decide)) rfl (pa_cons (pv 1) (pa_cons (pe_ix (ix_listK K) (pe_lst (pa_cons pe_int (pa_cons pe_int pa_nil))) (pe_callTy call_int1 (by rfl) (E.free 48) (by decide +kernel) (pa_cons (pe_cmpR op_eq (pv 2) pe_int (nomark _)) pa_nil)) (fun _ _ => rfl)) pa_nil))))
    (pss_cons (ps_set (i := 4) sc_law.nd rfl (.inl rfl) (pe_c (ok_law_settings E) (hr.mono (by decide)) rfl (pa_cons (pv 3) pa_nil)))
    (pss_cons (ps_set (i := 5) sc_law.nd rfl (.inl rfl) (pe_c (ok_law_told E) (hr.mono (by decide)) rfl (pa_cons (pv 1) (pa_cons (pv 3) pa_nil))))
    (pss_cons (ps_set (i := 6) sc_law.nd rfl (.inl rfl) (pe_c (ok_law_told E) (hr.mono (by decide)) rfl (pa_cons (pv 1) (pa_cons (pv 3) pa_nil))))
    (pss_cons (ps_if (pt_not (pt_val (pe_c (ok_law_below E) (hr.mono (by decide)) rfl (pa_cons (pv 4) (pa_cons (pv 5) pa_nil))))) (pss_one (ps_ret pe_bl)) pss_nil)
    (pss_cons (ps_if (PW.pt (pw_or (pt_not (pt_val (pe_cE (E := fun _ _ _ => False) (ok_law_closing E hPr) (hr.mono (by decide)) takes0N (fun _ _ _ _ z => z) rfl (pa_cons (pv 3) (pa_cons (pv 4) (pa_cons (pv 5) pa_nil)))))) (pw_or1 (pt_not (pt_val (pe_cE (E := fun _ _ _ => False) (ok_law_closing E hPr) (hr.mono (by decide)) takes0N (fun _ _ _ _ z => z) rfl (pa_cons (pv 3) (pa_cons (pv 4) (pa_cons (pv 6) pa_nil))))))))) (pss_one (ps_ret pe_bl)) pss_nil)
    (pss_cons (ps_set (i := 7) sc_law.nd rfl (.inl rfl) (pe_c (ok_law_part E) (hr.mono (by decide)) rfl (pa_cons (pv 1) (pa_cons (pv 3) (pa_cons (pv 4) pa_nil)))))
    (pss_cons (ps_if (pt_not (pt_val (pe_cE (E := fun _ _ _ => False) (ok_law_uncovered E hPr) (hr.mono (by decide)) takes0N (fun _ _ _ _ z => z) rfl (pa_cons (pv 3) (pa_cons (pv 4) (pa_cons (pe_ix (ix_listK K) (pv 7) pe_int (fun _ _ => rfl)) (pa_cons (pe_ix (ix_listK K) (pv 7) pe_int (fun _ _ => rfl)) pa_nil))))))) (pss_one (ps_ret pe_bl)) pss_nil)
    (pss_one (ps_ret (pe_cmpR op_eq (pe_c (ok_law_refusals E hPr) (hr.mono (by decide)) rfl (pa_cons (pv 3) (pa_cons (pv 5) pa_nil))) pe_int (nomark _))))))))))))))), fun g σ Q s fin => ?_⟩
    -- bag = _law_bag(script)
    refine st_setCW (P := fun z osz => ∃ l, z = V.ref l ∧ osz = [(l, Bag K)]) [] [] s (by simp) (ea_cons (ev_var rfl) ea_nil) ⟨script, rfl, rfl, fun l => ⟨l, rfl, rfl⟩⟩ (fun z osz hz v g h s => ?_)
    obtain ⟨l, rfl, rfl⟩ := hz
    try dsimp only
    -- way = _law_take(bag, 48)
    refine st_setW s (ew_takeC (m := 0) rfl rfl ev_int ⟨by decide, by decide⟩) (fun way hw v g h s => ?_)
    try dsimp only
    -- if way == 47:
    refine st_if s (et_test (ev_eqI (ev_var rfl) ev_int)) (fun hc g h s => ?_) (fun hc g h s => ?_)
    · -- return _law_within(bag) and _law_beyond(bag)
      refine cw_call (P := fun z osz => z = true ∧ osz = [(l, Bag K)]) [(l, Bag K)] [] s (by simp) (ea_cons (ev_var rfl) ea_nil) ⟨l, rfl, rfl, rfl, rfl⟩ (fun v z osz g1 h1 hz s e1 r => ?_)
      obtain ⟨rfl, rfl⟩ := hz
      refine ⟨true, r, ?_⟩
      refine cw_call (P := fun z osz => z = true ∧ osz = [(l, Bag K)]) [(l, Bag K)] [] s (by simp) (ea_cons (ev_var rfl) ea_nil) ⟨l, rfl, rfl, rfl, rfl⟩ (fun v z osz g1 h1 hz s e1 r => ?_)
      obtain ⟨rfl, rfl⟩ := hz
      exact fin v true _ _ _ _ _ hP s r
    · dsimp only [tNext]
      -- tops = _law_tops(bag, [60, 150][int(way == 46)])
      refine st_setCW (P := fun z osz => TopsOk z ∧ osz = [(l, Bag K)]) [(l, Bag K)] [] s (by simp) (ea_cons (ev_var rfl) (ea_cons (ev_ixLD (xs := [60, 150]) (i := if decide (way = 46) = true then 1 else 0) (0 : Int) (ev_lstL (el_cons ev_int (el_cons ev_int el_nil))) (ev_intB (ev_eqI (ev_var rfl) ev_int)) (by split <;> decide) (by split <;> decide)) ea_nil)) ⟨l, _, rfl, rfl, by split <;> decide, fun ts h => ⟨h, rfl⟩⟩ (fun ts osz hz v g h s => ?_)
      obtain ⟨ok, rfl⟩ := hz
      try dsimp only
      -- settings
      refine st_set (x := sT ts.l) s (ev_call (ea_cons (ev_var rfl) ea_nil) ⟨ts, rfl, ok.t, rfl⟩) (fun v g h s => ?_)
      try dsimp only
      -- told
      refine st_setCW (P := fun z osz => ∃ l2 told, ToldOk ts.l told ∧ z = V.ref l2 ∧ osz = [(l, Bag K), (l2, Own.lst K told)]) [(l, Bag K)] [] s (by simp) (ea_cons (ev_var rfl) (ea_cons (ev_var rfl) ea_nil)) ⟨l, ts, rfl, rfl, ok.t, fun l2 told h => ⟨l2, told, h, rfl, rfl⟩⟩ (fun z osz hz v g h s => ?_)
      obtain ⟨l2, told, htold, rfl, rfl⟩ := hz
      obtain ⟨g1, s⟩ := s.freezeS (i := 5) (m := 1) rfl rfl rfl
      try dsimp only [List.eraseIdx, List.set] at s
      -- other
      refine st_setCW (P := fun z osz => ∃ l2 told, ToldOk ts.l told ∧ z = V.ref l2 ∧ osz = [(l, Bag K), (l2, Own.lst K told)]) [(l, Bag K)] [] s (by simp) (ea_cons (ev_var rfl) (ea_cons (ev_var rfl) ea_nil)) ⟨l, ts, rfl, rfl, ok.t, fun l2 told h => ⟨l2, told, h, rfl, rfl⟩⟩ (fun z osz hz v g h s => ?_)
      obtain ⟨l3, other, hother, rfl, rfl⟩ := hz
      obtain ⟨g2, s⟩ := s.freezeS (i := 6) (m := 1) rfl rfl rfl
      try dsimp only [List.eraseIdx, List.set] at s
      have hlen : (sT ts.l).length ≤ 5000 := by unfold sT; rw [List.length_map]; have := okT_len ok.t; omega
      have hin : ∀ x ∈ sT ts.l, InS ts.l x.l := fun x h => mem_sT.mp h
      -- if not _law_below(settings, told):
      refine st_if s (et_not (et_B (ev_call (ea_cons (ev_var rfl) (ea_cons (ev_var rfl) ea_nil)) ⟨sT ts.l, told, ts.l.length, rfl, ⟨by have := ok.2.1; omega, hlen, by have := htold.1; omega, fun t h => (hin t h).len, fun t h => (htold.2 t h).len⟩, rfl⟩))) (fun hc g h s => by cases hc) (fun _ g h s => ?_)
      try dsimp only [tNext]
      -- if not _law_closing(..) or not _law_closing(..):
      refine st_if s (et_or (et_not (et_B (ev_callE (z := true) (ea_cons (ev_var rfl) (ea_cons (ev_var rfl) (ea_cons (ev_weakS (xs := SL.mk told) (ev_var rfl)) ea_nil))) ⟨ts, told, rfl, ⟨ok, htold⟩, rfl⟩))) fun _ => (et_not (et_B (ev_callE (z := true) (ea_cons (ev_var rfl) (ea_cons (ev_var rfl) (ea_cons (ev_weakS (xs := SL.mk other) (ev_var rfl)) ea_nil))) ⟨ts, other, rfl, ⟨ok, hother⟩, rfl⟩)))) (fun hc g h s => by cases hc) (fun _ g h s => ?_)
      try dsimp only [tNext]
      -- part
      refine st_setCW (P := fun z osz => ∃ br kp : List (Tup Int), (br.length ≤ 5000 ∧ kp.length ≤ 5000 ∧ (∀ t ∈ br, InS ts.l t.l) ∧ ∀ t ∈ kp, InS ts.l t.l) ∧ z = [br, kp] ∧ osz = [(l, Bag K)]) [(l, Bag K)] [] s (by simp) (ea_cons (ev_var rfl) (ea_cons (ev_var rfl) (ea_cons (ev_var rfl) ea_nil))) ⟨l, ts, rfl, rfl, ok, fun br kp h => ⟨br, kp, h, rfl, rfl⟩⟩ (fun z osz hz v g h s => ?_)
      obtain ⟨br, kp, hbk, rfl, rfl⟩ := hz
      try dsimp only
      -- if not _law_uncovered(..):
      refine st_if s (et_not (et_B (ev_callE (z := true) (ea_cons (ev_var rfl) (ea_cons (ev_var rfl) (ea_cons (ev_ixL (x := br) (ev_var rfl) ev_int rfl) (ea_cons (ev_ixL (x := kp) (ev_var rfl) ev_int rfl) ea_nil)))) ⟨ts, br, kp, rfl, ⟨ok, hbk⟩, rfl⟩))) (fun hc g h s => by cases hc) (fun _ g h s => ?_)
      try dsimp only [tNext]
      refine st_ret s (Ev.to (y := true) (ev_eqI (ev_call (ea_cons (ev_var rfl) (ea_cons (ev_sqL (ev_weakS (xs := SL.mk told) (ev_var rfl))) ea_nil)) ⟨ts, _, rfl, ⟨ok.1, by have := ok.2.2; omega, by have := ok.2.1; omega, by have := htold.1; show told.length ≤ 5000; omega⟩, rfl⟩) ev_int) (by rw [if_neg (by have := ok.2.2; omega)]; rfl)) ?_
      exact fun v g h s r => fin v true g h _ _ _ hP s r
end K14
namespace K14
open PySem PySem.Spec PyProof.Rows L2 Lw
abbrev R : PySem.W.OpenRow := PySem.W.OpenLaw.row PySem.Challenge.rw_planyard_k14_closing_whole
abbrev hk : PySem.W.Hook := hookY 4 fa fn ex xs
def ob (s : PySem.W.SharedT) : AlY := obsY 4 fa fn ex xs (HandSHeadRun.getT s)
theorem ob_eq (s : PySem.W.SharedT) : ob s = hk.obs s.abs := obsY_eq (HandSHeadRun.getT_eq s)
theorem run (w : World) : HandSHeadRun.RunEq R (PySem.W.view R.prog [39]) hk ob 2000 names w := by
  intro os
  kernel_rfl
theorem facts {P : Program} {w : World} {K : PySem.W.Frag} {h : Heap} {mg : Str → Option Value} {f : Addr} (hPr : P = PySem.Challenge.pw_planyard_k14_closing_whole) (X : K.In h) (G : h.Ns mainGlobals mg) (hfa : mg ("law" : Str) = some (.ref f)) (c : SaysY fa fn ex xs K) :
    ∃ fd : FuncData, (∀ (s : Shared) (v : Value), BindsTo s fd ⟨[v], []⟩ [("script", v)]) ∧ ∀ base : Heap, K.In base → base.Ns mainGlobals mg → FnOk P w K mg base CX0 8 f fd ["script"] (SpR K (a_law K)) := by
  have E : FX K mg := Fy.of X G c
  obtain ⟨fd, F⟩ := E.f.d.def_ 33 (d := dd "law" 39) rfl
  have e := hfa.symm.trans (E.gref 35 (x := "law") rfl)
  cases e
  have b := FunD.bindsA (ps := ["script"]) F fun _ _ _ _ _ _ us hl => match us, hl with | [_], _ => rfl
  exact ⟨fd, fun s v => b s [v] rfl, fun base _ _ => ok_law E hPr F⟩
theorem law_sp {K : PySem.W.Frag} {H : Hp} {a : Addr} {ns : List Int} (h : SqL K H a (ns.map V.int)) {E : XK} : SpR K (a_law K) [.ref a] H (fun v _ => v = .bl true) E :=
  ⟨H, [sv ns], fun c => c = true, ⟨ns, rfl, rfl⟩, fun _ _ q => q, .cons ⟨_, rfl, a, _, rfl, h, paired_of_eq⟩ .nil, fun v z g' H' hz _ r => by
    cases hz
    exact r⟩
end K14
open PySem PySem.W PySem.Calls PyProof.Rows
theorem PySem.Challenge.cw_planyard_k14_closing_whole_holds : PySem.Challenge.rw_planyard_k14_closing_whole.Holds := by
  w_on; o_law
  refine HandSHeadRun.head_any (r := OpenLaw.row PySem.Challenge.rw_planyard_k14_closing_whole) (q := view (OpenLaw.row PySem.Challenge.rw_planyard_k14_closing_whole).prog [39]) (H := K14.hk) (ob := K14.ob) (M := 2000) (loose := K14.names) (d := HandSHeadRun.topDef (OpenLaw.row PySem.Challenge.rw_planyard_k14_closing_whole).prog 39) (kwd := []) K14.ob_eq
    (by kernel_rfl) (fun _ => rfl) K14.run (by kernel_rfl) (by kernel_rfl) (by kernel_rfl) (by rfl) (by first | assumption | decide +kernel) (by decide +kernel) ⟨rfl, rfl, rfl, rfl, rfl, by decide +kernel⟩ ?hw ?hc
  case hw => w_witness2
  case hc =>
    refine L2.walk_ofE (l := PySem.Challenge.rw_planyard_k14_closing_whole) (n := 63) (k := 8) (x := "script") (CX := L2.CX0) rfl (by decide) (by kernel_rfl) ⟨rfl, by decide, by decide⟩ ?F (fun _ _ _ _ z => z)
    intro w mg fa h Y G hmg0
    obtain ⟨K, KX, c⟩ := Y
    have hmg : mg ("law" : PySem.Str) = some (.ref fa) := by
      have e : (HandSHeadRun.topDef (OpenLaw.row PySem.Challenge.rw_planyard_k14_closing_whole).prog 39).name = ("law" : PySem.Str) := by kernel_rfl
      rw [← e]
      exact hmg0
    obtain ⟨fd, hb, hF⟩ := K14.facts (P := (PySem.Challenge.rw_planyard_k14_closing_whole).prog) (w := w) rfl KX G hmg c
    exact ⟨K, fd, Lw.SpR K (K14.a_law K), KX, hb, fun H a ns hl _ hS => K14.law_sp hS, hF⟩
